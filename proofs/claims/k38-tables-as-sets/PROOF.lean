import PyProof.Rows.All
import Wide.All
import OpenK.AllK
import Wide.FinOn
import HandS.ForMost
import HandS.ForExc
import HandS.Walk
import HandS.Defaults
import HandS.HeadHook1
import KE.KeyNested
import PyProof.DictFindH
import PyProof.DictRoadsH
import PyProof.DictCalls
import KE.KDictWalk
import HandS.Iter
import HandS.Conv
import KE.KDictCopyH
import HandS.DictComp
import HandS.Lambda
import HandS.IsInst
import HandS.TupAny
import HandS.TupLe
import HandS.Star
import HandS.Deep
import HandS.Style
import HandS.ExcCtx
import HandS.HeadHook4
import KE.GoesEnum
import KE.GoesZip
import KE.GoesMore
import HandS.More
import HandS.TupMul
import HandS.Strs
import PyProof.Rows.SortShellAny
import HandS.Dict
import PyProof.ReprRoads
import HandS.OwnEq
import PyProof.InstEq
import HandS.HeadEnd
import HandS.EndBits
import HandS.NoneIn
import HandS.Small
import HandS.Property
import HandS.Finally
import PyProof.TupleOps
import PyProof.P3Eq
import KE.SortData
import HandS.DeepEq
import KE.DataFind
import KE.KDictSum
import KE.KOpsOwn
import PyProof.TwoTypes
import PyProof.ListMulAny
import PyProof.DictMoreH
import HandS.TupLen
import KE.KStateDown
import Lean
import HandS.Head0
import HandS.Head1
import HandS.Head2
import PySem.Challenge.RW_heldback_k38_tables_as_sets
set_option Elab.async false
set_option linter.all false
set_option maxRecDepth 100000
set_option maxHeartbeats 4000000
/-! MPD1: dicts whose keys are None, ints and tuples of such and of texts, nested: a key is looked up -/
namespace MP
open PySem
section
variable {prog : Program} {w : World} {A : Around} {E : Value → Shared → Prop} {s : Shared}
abbrev NEnt := NestedKey × Value × Value
def entN (w : World) (x : NEnt) : DictEntry := ⟨x.1.hash w, x.2.1, x.2.2⟩
def NKeys (h : Heap) (xs : List NEnt) : Prop := ∀ x ∈ xs, NestedIs h x.1 x.2.1 ∧ x.1.depth ≤ 8
def placeN (xs : List NEnt) (k : NestedKey) : Option Nat := xs.findIdx? fun x => decide (x.1 = k)
theorem place_some {xs : List NEnt} {k : NestedKey} {j : Nat} (h : placeN xs k = some j) : ∃ x, xs[j]? = some x ∧ x.1 = k := by
  obtain ⟨hl, h1, _⟩ := List.findIdx?_eq_some_iff_getElem.mp h
  exact ⟨xs[j], List.getElem?_eq_getElem hl, of_decide_eq_true h1⟩
theorem place_of {xs : List NEnt} {k : NestedKey} (hn : (xs.map (·.1)).Nodup) {j : Nat} {x : NEnt} (h : xs[j]? = some x) (hk : x.1 = k) : placeN xs k = some j := by
  cases hp : placeN xs k with
  | none =>
    have := List.findIdx?_eq_none_iff.mp hp x (List.mem_of_getElem? h)
    rw [hk] at this
    simp at this
  | some i =>
    obtain ⟨y, hy, e⟩ := place_some hp
    have h1 : (xs.map (·.1))[j]? = some k := by rw [List.getElem?_map, h]; exact congrArg some hk
    have h2 : (xs.map (·.1))[i]? = some k := by rw [List.getElem?_map, hy]; exact congrArg some e
    rw [(List.getElem?_inj (List.getElem?_eq_some_iff.mp h2).1 hn).mp (h2.trans h1.symm)]
theorem ent_at {es : Array DictEntry} {xs : List NEnt} (he : es.toList = xs.map (entN w)) (j : Nat) : es[j]? = (xs[j]?).map (entN w) := by
  rw [← Array.getElem?_toList, he, List.getElem?_map]
theorem quietN {v : Value} {k : NestedKey} {stored : List Value} {Q : Bool → Shared → Prop} (hk : NestedIs s.heap k v ∧ k.depth ≤ 8)
    (hst : ∀ u ∈ stored, ∃ k', NestedIs s.heap k' u ∧ k'.depth ≤ 8) (h : Q false s) : wpAny (model prog w) A (tableMayTell v stored) Q E s := by
  unfold tableMayTell
  split
  · exact wpAny_pure h
  · refine wpAny_bind (quiet_key k v 8 s hk.1 hk.2 _ _ _ ?_)
    rw [if_neg (by decide)]
    refine wpAny_bind (wpAny_forIn_list _ (fun left acc st => st = s ∧ acc = (none, ()) ∧ ∀ u ∈ left, ∃ k', NestedIs s.heap k' u ∧ k'.depth ≤ 8) _ ?_ ?_ _ _ ⟨rfl, rfl, hst⟩)
    · rintro u left acc st ⟨rfl, rfl, hl⟩
      obtain ⟨k', h1, h2⟩ := hl u List.mem_cons_self
      refine wpAny_bind (quiet_key k' u 8 _ h1 h2 _ _ _ ?_)
      rw [if_neg (by decide)]
      exact wpAny_pure ⟨rfl, rfl, fun z hz => hl z (List.mem_cons_of_mem _ hz)⟩
    · rintro acc st ⟨rfl, rfl, _⟩
      exact wpAny_pure h
theorem eqN {x y : NestedKey} {a b : Value} {Q : Bool → Shared → Prop} (hu : A.units + 8 < cLine) (hx : NestedIs s.heap x a ∧ x.depth ≤ 8) (hy : NestedIs s.heap y b ∧ y.depth ≤ 8) (h : Q (decide (x = y)) s) : wpAny (model prog w) A (eqBool a b) Q E s := by
  have hx2 := hx.2
  exact eqAt_key x y A s _ _ hx.1 hy.1 (by omega) _ _ _ _ (by rw [← NestedKey.decide_eq]; exact h)
theorem findN {d : Addr} {v : Value} {o : Obj} {es : Array DictEntry} {ep : Nat} {xs : List NEnt} {k : NestedKey} {Q : Option Nat → Shared → Prop} (hu : A.units + 8 < cLine) (hk : NestedIs s.heap k v ∧ k.depth ≤ 8) (ht : ∀ x, k ≠ .text x)
    (ho : s.heap.get? d = some o) (hd : o.data = .dict es ep) (he : es.toList = xs.map (entN w)) (his : NKeys s.heap xs) (hn : (xs.map (·.1)).Nodup) (h : Q (placeN xs k) s) :
    wpAny (model prog w) A (dictFind d v (k.hash w)) Q E s := by
  have hsz : es.size = xs.length := by rw [← Array.length_toList, he, List.length_map]
  generalize hpl : placesWithHash es.size (fun i => es[i]?.map (·.hash)) (k.hash w) = places
  have hP : ∀ i, i ∈ places ↔ ∃ x, xs[i]? = some x ∧ x.1.hash w = k.hash w := fun i => by
    rw [← hpl, placesWithHash, List.mem_filter, List.mem_range, ent_at he]
    constructor
    · rintro ⟨h1, h2⟩
      have hl : i < xs.length := by omega
      refine ⟨xs[i], List.getElem?_eq_getElem hl, ?_⟩
      rw [List.getElem?_eq_getElem hl] at h2
      simpa [entN] using h2
    · rintro ⟨x, hx, e⟩
      refine ⟨by have := (List.getElem?_eq_some_iff.mp hx).1; omega, ?_⟩
      rw [hx]
      simp [entN, e]
  have hnd : places.Nodup := by
    rw [← hpl, placesWithHash]
    exact List.Pairwise.filter _ List.nodup_range
  have hstored : ∀ u ∈ places.filterMap (fun i => es[i]?.map (·.key)), ∃ k', NestedIs s.heap k' u ∧ k'.depth ≤ 8 := fun u hu => by
    obtain ⟨i, hi, e⟩ := List.mem_filterMap.mp hu
    obtain ⟨x, hx, _⟩ := (hP i).mp hi
    rw [ent_at he, hx] at e
    obtain rfl : x.2.1 = u := by simpa [entN] using e
    exact ⟨x.1, his x (List.mem_of_getElem? hx)⟩
  have htgt : ∀ j, placeN xs k = some j → j ∈ places := fun j hj => by
    obtain ⟨x, hx, e⟩ := place_some hj
    exact (hP j).mpr ⟨x, hx, by rw [e]⟩
  have hstr : ∀ z t, v ≠ .str z t := fun z t e => by
    subst e
    cases hk.1
    exact ht _ rfl
  unfold dictFind
  try with_reducible refine wpAny_holding ?_
  refine wpAny_bind (wpAny_dictEntries ho hd ?_)
  rw [hpl]
  -- the two walks
  have plain : ∀ {Q : Option Nat → Shared → Prop}, Q (placeN xs k) s → wpAny (model prog w) A (dictWalkPlain d v (k.hash w) es places) Q E s := fun {Q} h => by
    unfold dictWalkPlain
    refine wpAny_bind (wpAny_forIn_list _ (fun left acc st => st = s ∧ acc = (none, ()) ∧ (∀ i ∈ left, i ∈ places) ∧ ∀ j, placeN xs k = some j → j ∈ left) _ ?_ ?_ _ _ ⟨rfl, rfl, fun _ z => z, htgt⟩)
    · rintro i left acc st ⟨rfl, rfl, hl, hj⟩
      obtain ⟨x, hx, hh⟩ := (hP i).mp (hl i List.mem_cons_self)
      rw [ent_at he, hx]
      show wpAny (model prog w) A (if ((entN w x).hash == k.hash w) = true then _ else _) _ E _
      rw [if_pos (show ((entN w x).hash == _) = true from beq_iff_eq.mpr hh)]
      refine wpAny_bind (wpAny_dictEpoch ho hd (wpAny_bind (eqN (x := x.1) (y := k) hu (his x (List.mem_of_getElem? hx)) hk (wpAny_bind (wpAny_dictEpoch ho hd ?_)))))
      show wpAny _ _ (if (ep != ep) = true then _ else _) _ E _
      rw [if_neg (by simp)]
      by_cases hkk : x.1 = k
      · rw [decide_eq_true hkk]
        rw [if_pos rfl]
        refine wpAny_bind (wpAny_rule ?_)
        refine wpAny_pure (wpAny_pure ?_)
        rw [← place_of hn hx hkk]
        exact h
      · rw [decide_eq_false hkk]
        rw [if_neg (by decide)]
        refine wpAny_bind (wpAny_rule ?_)
        refine wpAny_pure ⟨rfl, rfl, fun z hz => hl z (List.mem_cons_of_mem _ hz), fun j hp => ?_⟩
        rcases List.mem_cons.mp (hj j hp) with rfl | h2
        · obtain ⟨y, hy, e⟩ := place_some hp
          rw [hx] at hy
          cases hy
          exact absurd e hkk
        · exact h2
    · rintro acc st ⟨rfl, rfl, _, hj⟩
      have : placeN xs k = none := by
        cases hp : placeN xs k with
        | none => rfl
        | some j => cases hj j hp
      rw [this] at h
      exact wpAny_pure h
  have hany : ∀ a, v = .ref a → ¬ (es.any fun e => e.key == v && e.hash != k.hash w) = true := fun a hv => by
    rw [← Array.any_toList, he, List.any_map, List.any_eq_true]
    rintro ⟨x, hx, hc⟩
    simp only [Function.comp, entN, Bool.and_eq_true, bne_iff_ne, ne_eq] at hc
    obtain ⟨h1, h2⟩ := hc
    subst hv
    have h3 : x.2.1 = Value.ref a := by simpa using h1
    have h4 := (his x hx).1
    rw [h3] at h4
    exact h2 (by rw [NestedIs.inj _ _ _ h4 hk.1])
  have walk : ∀ (f : Nat → Option (Option Nat) × Option Nat → Sem (ForInStep (Option (Option Nat) × Option Nat))), (∀ (i : Nat) (hit : Option Nat) (x : NEnt) {R : ForInStep (Option (Option Nat) × Option Nat) → Shared → Prop}, xs[i]? = some x → x.1.hash w = k.hash w → (x.1 = k → hit = none ∧ R (.done (some (some i), hit)) s ∧ R (.yield (none, some i)) s) → (x.1 ≠ k → R (.yield (none, hit)) s) → wpAny (model prog w) A (f i (none, hit)) R E s) →
      wpAny (model prog w) A (forIn places ((none, none) : Option (Option Nat) × Option Nat) f) (fun r st => st = s ∧ (r.1 = some (placeN xs k) ∨ (r.1 = none ∧ r.2 = placeN xs k))) E s := fun f hf => by
    refine wpAny_forIn_list _ (fun left acc st => st = s ∧ left.Nodup ∧ (∀ i ∈ left, i ∈ places) ∧ ∃ hit, acc = (none, hit) ∧ ((hit = none ∧ ∀ j, placeN xs k = some j → j ∈ left) ∨ (hit = placeN xs k ∧ ∀ j, placeN xs k = some j → ¬ j ∈ left))) _ ?_ ?_ _ _ ⟨rfl, hnd, fun _ z => z, none, rfl, .inl ⟨rfl, htgt⟩⟩
    · rintro i left acc st ⟨rfl, hln, hl, hit, rfl, hc⟩
      obtain ⟨x, hx, hh⟩ := (hP i).mp (hl i List.mem_cons_self)
      have hl2 : ∀ z ∈ left, z ∈ places := fun z hz => hl z (List.mem_cons_of_mem _ hz)
      obtain ⟨hni, hln2⟩ := List.nodup_cons.mp hln
      refine hf i hit x hx hh (fun hkk => ?_) (fun hkk => ?_)
      · have hpk := place_of hn hx hkk
        rcases hc with ⟨rfl, hj⟩ | ⟨rfl, hj⟩
        · refine ⟨rfl, ⟨rfl, .inl (by rw [hpk])⟩, rfl, hln2, hl2, _, rfl, .inr ⟨hpk.symm, fun j hp => ?_⟩⟩
          rw [hpk] at hp
          cases hp
          exact hni
        · exact absurd List.mem_cons_self (hj i hpk)
      · refine ⟨rfl, hln2, hl2, hit, rfl, ?_⟩
        have ne : ∀ j, placeN xs k = some j → j ≠ i := fun j hp e => by
          subst e
          obtain ⟨y, hy, e⟩ := place_some hp
          rw [hx] at hy
          cases hy
          exact hkk e
        rcases hc with ⟨rfl, hj⟩ | ⟨rfl, hj⟩
        · exact .inl ⟨rfl, fun j hp => (List.mem_cons.mp (hj j hp)).resolve_left (ne j hp)⟩
        · exact .inr ⟨rfl, fun j hp h3 => hj j hp (List.mem_cons_of_mem _ h3)⟩
    · rintro acc st ⟨rfl, _, _, hit, rfl, hc⟩
      refine ⟨rfl, .inr ⟨rfl, ?_⟩⟩
      rcases hc with ⟨rfl, hj⟩ | ⟨rfl, _⟩
      · cases hp : placeN xs k with
        | none => rfl
        | some j => cases hj j hp
      · rfl
  have hv : v = .none ∨ (∃ b, v = .bool b) ∨ (∃ i t, v = .int i t) ∨ ∃ a, v = .ref a := by
    obtain ⟨hk1, hk2⟩ := id hk
    cases hk1 with
    | none => exact .inl rfl
    | bool e => exact .inr (.inl ⟨_, rfl⟩)
    | int i t => exact .inr (.inr (.inl ⟨_, _, rfl⟩))
    | text x t => exact absurd rfl (ht x)
    | tup h1 h2 h3 h4 => exact .inr (.inr (.inr ⟨_, rfl⟩))
  by_cases hall : (v :: places.filterMap (fun i => es[i]?.map (·.key))).all carriedByValue = true
  · rcases hv with rfl | ⟨b, rfl⟩ | ⟨i, t, rfl⟩ | ⟨a, rfl⟩ <;> (dsimp only; rw [if_pos hall]; exact plain h)
  · by_cases hone : (places.filterMap (fun i => es[i]?.map (·.key)) == [v]) = true
    · rcases hv with rfl | ⟨b, rfl⟩ | ⟨i, t, rfl⟩ | ⟨a, rfl⟩ <;> (
         dsimp only
         rw [if_neg hall]
         first | rw [if_neg (hany _ rfl)] | skip
         rw [if_pos hone]
         refine wpAny_bind (wpAny_pure ?_)
         rw [if_neg (by simp)]
         refine wpAny_bind (wpAny_mono (walk _ fun i hit x R hx hh h1 h2 => ?_) (fun r st hr => ?_) fun _ _ z => z)
         rotate_left
         · obtain ⟨r1, r2⟩ := r
           obtain ⟨rfl, h4 | ⟨h4, h5⟩⟩ := hr
           · cases (show r1 = _ from h4)
             exact wpAny_pure h
           · cases (show r1 = none from h4)
             cases (show r2 = _ from h5)
             exact wpAny_pure h
         rw [ent_at he, hx]
         show wpAny _ _ (if ((entN w x).hash == k.hash w) = true then _ else _) _ E _
         rw [if_pos (show ((entN w x).hash == k.hash w) = true from beq_iff_eq.mpr hh)]
         refine wpAny_bind (wpAny_dictEpoch ho hd (wpAny_bind (eqN hu (his x (List.mem_of_getElem? hx)) hk (wpAny_bind (wpAny_dictEpoch ho hd ?_)))))
         show wpAny _ _ (if (ep != ep) = true then _ else _) _ E _
         rw [if_neg (by simp)]
         by_cases hkk : x.1 = k
         · obtain ⟨rfl, r1, r2⟩ := h1 hkk
           rw [decide_eq_true hkk, if_pos rfl]
           rw [if_neg (by simp)]
           refine wpAny_bind (wpAny_rule ?_)
           split
           · exact wpAny_pure r1
           · exact wpAny_pure r2
         · rw [decide_eq_false hkk, if_neg (by decide)]
           refine wpAny_bind (wpAny_rule ?_)
           rw [if_neg (by simp)]
           exact wpAny_pure (h2 hkk))
    · rcases hv with rfl | ⟨b, rfl⟩ | ⟨i, t, rfl⟩ | ⟨a, rfl⟩ <;> (
         dsimp only
         rw [if_neg hall]
         first | rw [if_neg (hany _ rfl)] | skip
         rw [if_neg hone]
         refine wpAny_bind (quietN hk hstored ?_)
         rw [if_neg (by simp)]
         refine wpAny_bind (wpAny_mono (walk _ fun i hit x R hx hh h1 h2 => ?_) (fun r st hr => ?_) fun _ _ z => z)
         rotate_left
         · obtain ⟨r1, r2⟩ := r
           obtain ⟨rfl, h4 | ⟨h4, h5⟩⟩ := hr
           · cases (show r1 = _ from h4)
             exact wpAny_pure h
           · cases (show r1 = none from h4)
             cases (show r2 = _ from h5)
             exact wpAny_pure h
         rw [ent_at he, hx]
         show wpAny _ _ (if ((entN w x).hash == k.hash w) = true then _ else _) _ E _
         rw [if_pos (show ((entN w x).hash == k.hash w) = true from beq_iff_eq.mpr hh)]
         refine wpAny_bind (wpAny_dictEpoch ho hd (wpAny_bind (eqN hu (his x (List.mem_of_getElem? hx)) hk (wpAny_bind (wpAny_dictEpoch ho hd ?_)))))
         show wpAny _ _ (if (ep != ep) = true then _ else _) _ E _
         rw [if_neg (by simp)]
         by_cases hkk : x.1 = k
         · obtain ⟨rfl, r1, r2⟩ := h1 hkk
           rw [decide_eq_true hkk, if_pos rfl]
           rw [if_neg (by simp)]
           refine wpAny_bind (wpAny_rule ?_)
           split
           · exact wpAny_pure r1
           · exact wpAny_pure r2
         · rw [decide_eq_false hkk, if_neg (by decide)]
           refine wpAny_bind (wpAny_rule ?_)
           rw [if_neg (by simp)]
           exact wpAny_pure (h2 hkk))
end
end MP


set_option Elab.async false
set_option linter.all false
set_option maxRecDepth 100000
set_option maxHeartbeats 4000000
/-! MPD2: d[k], d.get(k), k in d, d[k] = v of such dicts -/
namespace MP
open PySem
def NDict (w : World) (h : Heap) (d : Addr) (xs : List NEnt) : Prop := ∃ o es ep, h.get? d = some o ∧ o.ExactDict ∧ o.data = .dict es ep ∧ es.toList = xs.map (entN w) ∧ (xs.map (·.1)).Nodup
def lookN (xs : List NEnt) (k : NestedKey) : Option Value := (placeN xs k).bind fun j => xs[j]?.map (·.2.2)
def putN (xs : List NEnt) (k : NestedKey) (v u : Value) : List NEnt := match placeN xs k with
  | some j => xs.modify j fun x => (x.1, x.2.1, u)
  | none => xs ++ [(k, v, u)]
section
variable {prog : Program} {w : World} {A : Around} {E : Value → Shared → Prop} {s : Shared} {d : Addr} {v u : Value} {xs : List NEnt} {k : NestedKey}
theorem NDict.typeIs (h : NDict w s.heap d xs) : s.TypeIs (.ref d) "dict" := let ⟨o, _, _, ho, hc, _⟩ := h; ⟨o, ho, hc.1⟩
theorem getN {Q : Option Value → Shared → Prop} (hu : A.units + 8 < cLine) (hk : NestedIs s.heap k v ∧ k.depth ≤ 8) (ht : ∀ x, k ≠ .text x) (hd : NDict w s.heap d xs) (his : NKeys s.heap xs)
    (h : ∀ t, Q (lookN xs k) { s with toks := t }) : wpAny (model prog w) A (dictGet d v) Q E s := by
  obtain ⟨o, es, ep, ho, hx, hdt, he, hn⟩ := hd
  have hk2 := hk.2
  unfold dictGet
  try with_reducible refine wpAny_holding ?_
  refine wpAny_bind (pyHash_key k v A s _ hk.1 (by omega) (wpAny_bind (findN (s := { s with toks := s.toks + k.draws }) hu hk ht ho hdt he his hn ?_)))
  have h := h (s.toks + k.draws)
  unfold lookN at h
  cases hp : placeN xs k with
  | none =>
    rw [hp] at h
    exact wpAny_pure h
  | some j =>
    rw [hp] at h
    refine wpAny_bind (wpAny_dictEntries (s := { s with toks := s.toks + k.draws }) ho hdt ?_)
    rw [ent_at he]
    have e : ((xs[j]?).map (entN w)).map (·.val) = xs[j]?.map (·.2.2) := by rw [Option.map_map]; rfl
    rw [e]
    exact wpAny_pure h
theorem modify_map {xs : List NEnt} {u : Value} : ∀ (j : Nat), (xs.map (entN w)).modify j (fun e => { e with val := u }) = (xs.modify j fun x => (x.1, x.2.1, u)).map (entN w) := by
  induction xs with
  | nil => intro j; cases j <;> rfl
  | cons x xs ih =>
    intro j
    cases j with
    | zero => rfl
    | succ j => simp [List.modify_succ_cons, ih]
theorem modify_keys {u : Value} : ∀ (xs : List NEnt) (j : Nat), (xs.modify j fun x => (x.1, x.2.1, u)).map (·.1) = xs.map (·.1)
  | [], j => by cases j <;> rfl
  | x :: xs, 0 => rfl
  | x :: xs, j + 1 => by simp [List.modify_succ_cons, modify_keys xs]
theorem setN {Q : Unit → Shared → Prop} (hu : A.units + 8 < cLine) (hk : NestedIs s.heap k v ∧ k.depth ≤ 8) (ht : ∀ x, k ≠ .text x) (hd : NDict w s.heap d xs) (his : NKeys s.heap xs) (hsz : xs.length ≤ sizeLine)
    (h : ∀ h' t, NDict w h' d (putN xs k v u) → Heap.SameBut d s.heap h' → Q () { s with heap := h', toks := t }) : wpAny (model prog w) A (dictSet d v u) Q E s := by
  obtain ⟨o, es, ep, ho, hx, hdt, he, hn⟩ := hd
  have hk2 := hk.2
  have hes : es.size = xs.length := by rw [← Array.length_toList, he, List.length_map]
  unfold dictSet
  try with_reducible refine wpAny_holding ?_
  refine wpAny_bind (pyHash_key k v A s _ hk.1 (by omega) ?_)
  unfold dictSetHashed
  try with_reducible refine wpAny_holding ?_
  refine wpAny_bind (findN (s := { s with toks := s.toks + k.draws }) hu hk ht ho hdt he his hn ?_)
  unfold putN at h
  cases hp : placeN xs k with
  | none =>
    rw [hp] at h
    refine wpAny_bind (wpAny_rule (wpAny_updateDictKeys (hz := by omega) (s := { s with toks := s.toks + k.draws }) ho hdt (h _ _ ⟨_, _, ep + 1, Heap.get?_update_self _ ho (Obj.isFreed_of_dict (Obj.data_mapDictKeys hdt _)), hx.mapDictKeys _, Obj.data_mapDictKeys hdt _, ?_, ?_⟩ (Heap.SameBut.update ..))))
    · simp [he, entN]
    · rw [List.map_append, List.nodup_append]
      refine ⟨hn, by simp, fun a ha b hb e => ?_⟩
      simp only [List.map_cons, List.map_nil, List.mem_singleton] at hb
      subst hb
      subst e
      obtain ⟨x, hx, e⟩ := List.mem_map.mp ha
      have := List.findIdx?_eq_none_iff.mp hp x hx
      simp [e] at this
  | some j =>
    rw [hp] at h
    refine wpAny_bind (wpAny_rule (wpAny_bind (wpAny_updateDict (s := { s with toks := s.toks + k.draws }) ho hdt (wpAny_point (h _ _ ⟨_, _, ep, Heap.get?_update_self _ ho (Obj.isFreed_of_dict (Obj.data_mapDict hdt _)), hx.mapDict _, Obj.data_mapDict hdt _, ?_, ?_⟩ (Heap.SameBut.update ..))))))
    · have := modify_map (w := w) (xs := xs) (u := u) j
      rw [← he] at this
      obtain ⟨l⟩ := es
      simpa using this
    · rw [modify_keys]; exact hn
theorem inN {Q : Bool → Shared → Prop} (hu : A.units + 9 < cLine) (hk : NestedIs s.heap k v ∧ k.depth ≤ 8) (ht : ∀ x, k ≠ .text x) (hs : (d == sysModules) = false) (hd : NDict w s.heap d xs) (his : NKeys s.heap xs)
    (h : ∀ t, Q (lookN xs k).isSome { s with toks := t }) : wpAny (model prog w) A (contains (.ref d) v) Q E s := by
  refine wpAny_contains_slot hd.typeIs PySem.F.slot_dict_contains (call_meetsIn PySem.F.slot_dict_contains hd.typeIs PySem.F.entry_dict_contains (PySem.F.args_dict_contains_2 _ _) (S := fun A' R s' => A' = A ∧ s' = s ∧ ∀ t, R (.ok (.ret (.bool (lookN xs k).isSome))) { s with toks := t }) (fun A' R s' hS => ?_) ⟨rfl, rfl, fun t => wpAny_truthy_bool (h t)⟩)
  obtain ⟨rfl, rfl, hq⟩ := hS
  show wpAny (model prog w) _ (dictGet d v >>= _) _ _ s'
  refine wpAny_bind (getN (show A'.units + 1 + 8 < cLine by omega) hk ht hd his fun t => ?_)
  have hq := hq t
  cases hl : lookN xs k with
  | some p =>
    rw [hl] at hq
    show wpAny (model prog w) _ (ret (.bool true)) _ _ _
    exact wpAny_pure hq
  | none =>
    rw [hl] at hq
    show wpAny (model prog w) _ (Builtin.Dict.pendingKey? d v >>= _) _ _ _
    exact wpAny_bind (wpAny_pendingKey_other hs (wpAny_pure hq))
theorem opInN {Q : Value → Shared → Prop} (hu : A.units + 9 < cLine) (hk : NestedIs s.heap k v ∧ k.depth ≤ 8) (ht : ∀ x, k ≠ .text x) (hs : (d == sysModules) = false) (hd : NDict w s.heap d xs) (his : NKeys s.heap xs)
    (h : ∀ t, Q (.bool (lookN xs k).isSome) { s with toks := t }) : wpAny (model prog w) A (compareOp .In v (.ref d)) Q E s := by
  show wpAny (model prog w) A (do return .bool (← contains (.ref d) v)) Q E s
  exact wpAny_bind (inN hu hk ht hs hd his fun t => wpAny_pure (h t))
theorem opNotInN {Q : Value → Shared → Prop} (hu : A.units + 9 < cLine) (hk : NestedIs s.heap k v ∧ k.depth ≤ 8) (ht : ∀ x, k ≠ .text x) (hs : (d == sysModules) = false) (hd : NDict w s.heap d xs) (his : NKeys s.heap xs)
    (h : ∀ t, Q (.bool (!(lookN xs k).isSome)) { s with toks := t }) : wpAny (model prog w) A (compareOp .NotIn v (.ref d)) Q E s := by
  show wpAny (model prog w) A (do return .bool (!(← contains (.ref d) v))) Q E s
  exact wpAny_bind (inN hu hk ht hs hd his fun t => wpAny_pure (h t))
theorem putItemN {Q : Unit → Shared → Prop} (hu : A.units + 9 < cLine) (hk : NestedIs s.heap k v ∧ k.depth ≤ 8) (ht : ∀ x, k ≠ .text x) (hd : NDict w s.heap d xs) (his : NKeys s.heap xs) (hsz : xs.length ≤ sizeLine)
    (h : ∀ h' t, NDict w h' d (putN xs k v u) → Heap.SameBut d s.heap h' → Q () { s with heap := h', toks := t }) : wpAny (model prog w) A (setItem (.ref d) v u) Q E s := by
  unfold setItem
  with_reducible (first | refine wpAny_holding ?_ | skip)
  refine wpAny_bind (wpAny_sequenceKey hd.typeIs (by decide) (wpAny_bind (wpAny_callSpecial?_slot (name := Str.ofString "__setitem__") hd.typeIs slot_dict_setitem (wpAny_call_entry slot_dict_setitem hd.typeIs entry_dict_setitem ?_ (args_dict_setitem _ _ _)))))
  show wpAny (model prog w) _ (Builtin.Dict.notOrdered "__setitem__" ⟨[.ref d, v, u], []⟩ >>= _) _ _ s
  refine wpAny_bind (wpAny_notOrdered_dict hd.typeIs ?_)
  show wpAny (model prog w) _ (dictSet d v u >>= _) _ _ s
  exact wpAny_bind (setN (show A.units + 1 + 8 < cLine by omega) hk ht hd his hsz fun h' t hd' hs' => wpAny_pure ⟨.none, rfl, wpAny_pure (h h' t hd' hs')⟩)
end
end MP


set_option Elab.async false
set_option linter.all false
set_option maxRecDepth 100000
set_option maxHeartbeats 4000000
/-! MPD3: such dicts among the tracked objects; rules -/
namespace MP
open PySem L2 PyProof.Rows
abbrev NV := NestedKey × V × V
def NVs : List NV → List NEnt → Prop := Paired fun p q => p.1 = q.1 ∧ RelV p.2.1 q.2.1 ∧ RelV p.2.2 q.2.2
def dnF (w : World) (d : Addr) (ks : List NV) (h : Heap) : Prop := ks.length ≤ sizeLine ∧ (d == sysModules) = false ∧ ∃ xs, NVs ks xs ∧ NDict w h d xs
def dnO (w : World) (d : Addr) (ks : List NV) : HO := .ext (dnF w d ks)
def placeV (ks : List NV) (k : NestedKey) : Option Nat := ks.findIdx? fun x => decide (x.1 = k)
def valN (ks : List NV) (k : NestedKey) : Option V := (placeV ks k).bind fun j => ks[j]?.map (·.2.2)
def putV (ks : List NV) (k : NestedKey) (y v : V) : List NV := match placeV ks k with
  | some j => ks.modify j fun x => (x.1, x.2.1, v)
  | none => ks ++ [(k, y, v)]
theorem pair_app {α β : Type} {R : α → β → Prop} : ∀ {as cs : List α} {bs ds : List β}, Paired R as bs → Paired R cs ds → Paired R (as ++ cs) (bs ++ ds)
  | _, _, _, _, .nil, q => q
  | _, _, _, _, .cons h t, q => .cons h (pair_app t q)
theorem NVs.place {ks : List NV} {xs : List NEnt} (h : NVs ks xs) (k : NestedKey) : placeV ks k = placeN xs k := by
  unfold NVs at h
  unfold placeV placeN
  induction h with
  | nil => rfl
  | cons hp t ih => rw [List.findIdx?_cons, List.findIdx?_cons, ih, hp.1]
theorem NVs.len {ks : List NV} {xs : List NEnt} (h : NVs ks xs) : ks.length = xs.length := Paired.length h
theorem NVs.at_ : ∀ {ks : List NV} {xs : List NEnt}, NVs ks xs → ∀ j : Nat, (ks[j]? = none ∧ xs[j]? = none) ∨ ∃ p q, ks[j]? = some p ∧ xs[j]? = some q ∧ p.1 = q.1 ∧ RelV p.2.1 q.2.1 ∧ RelV p.2.2 q.2.2
  | _, _, .nil, j => .inl ⟨by simp, by simp⟩
  | _, _, .cons h t, 0 => .inr ⟨_, _, rfl, rfl, h⟩
  | _, _, .cons h t, j + 1 => by simpa using NVs.at_ t j
theorem NVs.val {ks : List NV} {xs : List NEnt} (h : NVs ks xs) (k : NestedKey) : RelO (valN ks k) (lookN xs k) := by
  unfold valN lookN
  rw [h.place k]
  cases placeN xs k with
  | none => exact trivial
  | some j =>
    show RelO (ks[j]?.map (·.2.2)) (xs[j]?.map (·.2.2))
    rcases h.at_ j with ⟨h1, h2⟩ | ⟨p, q, h1, h2, _, _, h3⟩
    · rw [h1, h2]; exact trivial
    · rw [h1, h2]; exact h3
theorem NVs.mod {u : Value} {v : V} (r : RelV v u) : ∀ {ks : List NV} {xs : List NEnt}, NVs ks xs → ∀ j : Nat, NVs (ks.modify j fun x => (x.1, x.2.1, v)) (xs.modify j fun x => (x.1, x.2.1, u))
  | _, _, .nil, j => by cases j <;> exact .nil
  | _, _, .cons h t, 0 => .cons ⟨h.1, h.2.1, r⟩ t
  | _, _, .cons h t, j + 1 => by
    rw [List.modify_succ_cons, List.modify_succ_cons]
    exact .cons h (NVs.mod r t j)
theorem NVs.put {ks : List NV} {xs : List NEnt} {k : NestedKey} {y v : V} {z u : Value} (h : NVs ks xs) (ry : RelV y z) (r : RelV v u) : NVs (putV ks k y v) (putN xs k z u) := by
  unfold putV putN
  rw [h.place k]
  cases placeN xs k with
  | none => exact pair_app h (.cons ⟨rfl, ry, r⟩ .nil)
  | some j => exact NVs.mod r h j
theorem putV_len {ks : List NV} {k : NestedKey} {y v : V} : (putV ks k y v).length ≤ ks.length + 1 := by
  unfold putV
  cases placeV ks k with
  | none => simp
  | some j => simp
/-- a thing is a key, wherever the state is held -/
def NKy (K : PySem.W.Frag) (H : Hp) (k : NestedKey) (y : V) : Prop := ∀ {X : Cx} {pins : List (Addr × Obj)} {σ : L2.St} {s : Shared} {u : Value}, X.K = K → Inv X pins σ H s → RelV y u → NestedIs s.heap k u
def NKs (K : PySem.W.Frag) (H : Hp) (ks : List NV) : Prop := ∀ p ∈ ks, NKy K H p.1 p.2.1 ∧ p.1.depth ≤ 8
structure NKo (K : PySem.W.Frag) (H : Hp) (k : NestedKey) (y : V) : Prop where
  is : NKy K H k y
  dp : k.depth ≤ 8
  nt : ∀ x, k ≠ .text x
def DGetN (X : Cx) (H : Hp) (a : Addr) (y : V) (r : Option V) : Prop := ∃ ks k, Rd H a (dnO X.w a ks) ∧ NKs X.K H ks ∧ NKo X.K H k y ∧ r = valN ks k
def DPutN (X : Cx) (H : Hp) (a : Addr) (y v : V) (H' : Hp) : Prop := ∃ ks k, H a = some (dnO X.w a ks) ∧ NKs X.K H ks ∧ NKo X.K H k y ∧ ks.length < sizeLine ∧ H' = upd H a (dnO X.w a (putV ks k y v))
def IsN (X : Cx) (H : Hp) (a : Addr) : Prop := ∃ ks, Rd H a (dnO X.w a ks)
section
variable {X : Cx} {pins : List (Addr × Obj)} {σ : L2.St} {H : Hp} {s : Shared} {a : Addr} {y v : V} {u r : Value} {o : Option V} {A : Around} {E : Value → Shared → Prop}
theorem dn_rd {ks : List NV} (I : Inv X pins σ H s) (e : Rd H a (dnO X.w a ks)) : ks.length ≤ sizeLine ∧ (a == sysModules) = false ∧ ∃ xs, NVs ks xs ∧ NDict X.w s.heap a xs :=
  (show ObjOk X.prog X.w H s.heap a (dnO X.w a ks) from e.ok I.hok).1
theorem nks_of {ks : List NV} {xs : List NEnt} (I : Inv X pins σ H s) (n : NKs X.K H ks) (h : NVs ks xs) : NKeys s.heap xs := fun x hx => by
  obtain ⟨j, hj⟩ := List.getElem?_of_mem hx
  rcases h.at_ j with ⟨_, h2⟩ | ⟨p, q, h1, h2, e, r1, _⟩
  · rw [h2] at hj; cases hj
  · rw [h2] at hj
    cases hj
    obtain ⟨n1, n2⟩ := n p (List.mem_of_getElem? h1)
    rw [← e]
    exact ⟨n1 rfl I r1, n2⟩
theorem dn_ok {P : Program} {w : World} {H' : Hp} {h' : Heap} {ks : List NV} {xs : List NEnt} (z : ks.length ≤ sizeLine) (hd : (a == sysModules) = false) (rel : NVs ks xs) (dd : NDict w h' a xs) : ObjOk P w H' h' a (dnO w a ks) :=
  ⟨⟨z, hd, xs, rel, dd⟩, let ⟨q, _, _, hq, _⟩ := dd; ⟨q, hq⟩, fun h1 h2 ⟨z, hd, xs, rel, q, es, ep, hq, r⟩ k => ⟨z, hd, xs, rel, q, es, ep, k q hq, r⟩⟩
theorem d_inN {Q : Value → Shared → Prop} (hu : A.units + 9 < cLine) (I : Inv X pins σ H s) (g : DGetN X H a y o) (ry : RelV y u) (h : ∀ s', Inv X pins σ H s' → Q (.bool o.isSome) s') : wpAny (model X.prog X.w) A (compareOp .In u (.ref a)) Q E s := by
  obtain ⟨ks, k, e, n, c, l⟩ := g
  obtain ⟨z, hd, xs, rel, dd⟩ := dn_rd I e
  refine opInN hu ⟨c.is rfl I ry, c.dp⟩ c.nt hd dd (nks_of I n rel) fun t => ?_
  rw [← (rel.val k).isSome_eq, ← l]
  exact h _ (I.tok _)
theorem d_notInN {Q : Value → Shared → Prop} (hu : A.units + 9 < cLine) (I : Inv X pins σ H s) (g : DGetN X H a y o) (ry : RelV y u) (h : ∀ s', Inv X pins σ H s' → Q (.bool (!o.isSome)) s') : wpAny (model X.prog X.w) A (compareOp .NotIn u (.ref a)) Q E s := by
  obtain ⟨ks, k, e, n, c, l⟩ := g
  obtain ⟨z, hd, xs, rel, dd⟩ := dn_rd I e
  refine opNotInN hu ⟨c.is rfl I ry, c.dp⟩ c.nt hd dd (nks_of I n rel) fun t => ?_
  rw [← (rel.val k).isSome_eq, ← l]
  exact h _ (I.tok _)
theorem d_putN {H' : Hp} {Q : Unit → Shared → Prop} (hu : A.units + 9 < cLine) (I : Inv X pins σ H s) (g : DPutN X H a y v H') (ry : RelV y u) (rv : RelV v r) (h : ∀ s', Inv X pins σ H' s' → Q () s') : wpAny (model X.prog X.w) A (setItem (.ref a) u r) Q E s := by
  obtain ⟨ks, k, e, n, c, l, rfl⟩ := g
  obtain ⟨z, hd, xs, rel, dd⟩ := dn_rd I (.inl e)
  refine putItemN hu ⟨c.is rfl I ry, c.dp⟩ c.nt dd (nks_of I n rel) (by rw [← rel.len]; exact z) fun h' t dd' hs => h _ ?_
  have hl : (putV ks k y v).length ≤ sizeLine := by have := putV_len (ks := ks) (k := k) (y := y) (v := v); omega
  exact d_write I (by rw [e]; exact True.intro) hs (let ⟨q, _, _, hq, _⟩ := dd'; ⟨q, hq⟩) (dn_ok hl hd (rel.put ry rv) dd')
theorem isN_at (I : Inv X pins σ H s) (d : IsN X H a) : s.TypeIs (.ref a) "dict" ∧ (∀ b, Value.ref a = .ref b → ∃ ob, s.heap.get? b = some ob ∧ ob.dict = none) ∧ (a == sysModules) = false := by
  obtain ⟨ks, e⟩ := d
  obtain ⟨_, hd, xs, _, dd⟩ := dn_rd I e
  refine ⟨dd.typeIs, fun b q => ?_, hd⟩
  cases q
  obtain ⟨ob, _, _, h1, h2, _⟩ := dd
  exact ⟨ob, h1, h2.2.1⟩
end
def tDInN' (X : Cx) (ty td : TE) : TE := fun σ H Q => ty σ H fun y H1 => td σ H1 fun x H2 => ∃ a o, x = .ref a ∧ DGetN X H2 a y o ∧ Q (.bl o.isSome) H2
def tDNotInN' (X : Cx) (ty td : TE) : TE := fun σ H Q => ty σ H fun y H1 => td σ H1 fun x H2 => ∃ a o, x = .ref a ∧ DGetN X H2 a y o ∧ Q (.bl (!o.isSome)) H2
def sDPutN (X : Cx) (td ty tv : TE) : TS := fun D σ H => tv σ H fun v H1 => td σ H1 fun x H2 => ty σ H2 fun y H3 => ∃ a H4, x = .ref a ∧ DPutN X H3 a y v H4 ∧ D.nx σ H4
section
variable {X : Cx} {o i e value : Expr} {pos pos' apos cpos : Pos} {td ty tv : TE}
theorem pc_dinN' (hu : X.A.units + 9 < cLine) (hi : PE X i ty) (ho : PE X o td) : PC X .In i o (tDInN' X ty td) := by
  refine ⟨fun pins s σ H Q I h => thn (hi.run pins s σ H _ I h) fun iv s1 ⟨y, H1, I1, ry, q1⟩ => thn (ho.run pins s1 σ H1 _ I1 q1) fun u s2 ⟨x, H2, I2, rx, a, ov, ex, g, q2⟩ => ?_⟩
  subst ex
  obtain rfl : u = Value.ref a := rx
  exact d_inN hu I2 g ry fun s3 I3 => ⟨.bl ov.isSome, H2, I3, rfl, q2⟩
theorem pc_dnotinN' (hu : X.A.units + 9 < cLine) (hi : PE X i ty) (ho : PE X o td) : PC X .NotIn i o (tDNotInN' X ty td) := by
  refine ⟨fun pins s σ H Q I h => thn (hi.run pins s σ H _ I h) fun iv s1 ⟨y, H1, I1, ry, q1⟩ => thn (ho.run pins s1 σ H1 _ I1 q1) fun u s2 ⟨x, H2, I2, rx, a, ov, ex, g, q2⟩ => ?_⟩
  subst ex
  obtain rfl : u = Value.ref a := rx
  exact d_notInN hu I2 g ry fun s3 I3 => ⟨.bl (!ov.isSome), H2, I3, rfl, q2⟩
theorem ps_dputN (hu : X.A.units + 9 < cLine) (ho : PE X o td) (hi : PE X i ty) (hv : PE X value tv) (hs : swapsWith value (some (.Subscript o i pos')) pos.line X.env = pure false) :
    PS X (.Assign [.Subscript o i pos'] value pos) (sDPutN X td ty tv) := by
  refine ⟨fun pins s σ H D I h => wpAny_Assign_Subscript (thn (hv.run pins s σ H _ I h) fun r s1 ⟨v, H1, I1, rv, q1⟩ => thn (ho.run pins s1 σ H1 _ I1 q1) fun u s2 ⟨x, H2, I2, rx, q2⟩ => thn (hi.run pins s2 σ H2 _ I2 q2) fun iv s3 ⟨y, H3, I3, ry, a, H4, ex, g, q3⟩ => ?_) hs⟩
  subst ex
  obtain rfl : u = Value.ref a := rx
  exact d_putN hu I3 g ry rv fun s4 I4 => ⟨σ, H4, I4, q3⟩
end
end MP


set_option Elab.async false
set_option linter.all false
set_option maxRecDepth 100000
set_option maxHeartbeats 4000000
/-! MPD4: for k in d, list(d), {k: v} of such dicts -/
namespace MP
open PySem L2 PyProof.Rows
section
variable {X : Cx} {pins : List (Addr × Obj)} {σ : L2.St} {H : Hp} {s : Shared} {d : Addr} {o : Obj} {ks : List NV}
theorem ents_n {w : World} {es : Array DictEntry} {xs : List NEnt} (he : es.toList = xs.map (entN w)) (rel : NVs ks xs) : es.size = ks.length ∧ ∀ (i : Nat) (p : NV), ks[i]? = some p → ∃ en, es[i]? = some en ∧ RelV p.2.1 en.key := by
  have hl := rel.len
  refine ⟨by rw [← Array.length_toList, he, List.length_map, hl], fun i p hp => ?_⟩
  rcases rel.at_ i with ⟨h1, _⟩ | ⟨p', q, h1, h2, _, h3, _⟩
  · rw [h1] at hp; cases hp
  · rw [h1] at hp
    cases hp
    exact ⟨entN w q, by rw [ent_at he, h2]; rfl, h3⟩
theorem frzN (I : Inv X pins σ H s) (h : H d = some (.frz o (dnO X.w d ks))) :
    (d == sysModules) = false ∧ s.heap.get? d = some o ∧ o.ExactDict ∧ ∃ (es : Array DictEntry) (ep : Nat), o.data = .dict es ep ∧ es.size = ks.length ∧ ∀ (i : Nat) (p : NV), ks[i]? = some p → ∃ en, es[i]? = some en ∧ RelV p.2.1 en.key := by
  obtain ⟨hd, ⟨z, hs, xs, rel, o', es, ep, ho, hx, hdt, he, hn⟩, _⟩ := I.hok d _ h
  rw [hd] at ho
  cases ho
  exact ⟨hs, hd, hx, es, ep, hdt, ents_n he rel⟩
end
def ItN (w : World) (d : Addr) (o : Obj) (ks : List NV) : It :=
  ⟨fun i H => H d = some (.frz o (dnO w d ks)) ∧ i < ks.length, fun i H x H' => H' = H ∧ ∃ p, ks[i]? = some p ∧ x = p.2.1, fun i H => H d = some (.frz o (dnO w d ks)) ∧ ks.length ≤ i⟩
theorem turn_keysN {P : Program} {w : World} {K : PySem.W.Frag} {tg : Expr} {d : Addr} {o : Obj} {es : Array DictEntry} {ep : Nat} {ks : List NV} (it : Addr) (hod : o.data = .dict es ep) : Turn P w K tg (ItN w d o ks) [it] it (fun i h => h.IsKeyIter it d i ks.length ep) where
  mem := List.mem_singleton_self it
  obj := fun i h ⟨oi, e, c, dd⟩ b hb => ⟨oi, by rw [List.mem_singleton.mp hb]; exact e, fun v z => by rw [dd] at z; cases z⟩
  keep := fun i h h' st k => st.at fun oi e => k it (List.mem_singleton_self it) oi e
  item := fun X hP hw hK hc i pins s σ H E I hf st ⟨hd, hi⟩ => by
    subst hP hw hK
    obtain ⟨f0, f1, f2, f3, f4, f5⟩ := hf it (List.mem_singleton_self it)
    obtain ⟨hs, hgd, hx, es', ep', hdt, hsz, ent⟩ := frzN I hd
    obtain ⟨rfl, rfl⟩ := dict_ep hod hdt
    have hp : ks[i]? = some ks[i] := List.getElem?_eq_getElem hi
    obtain ⟨en, hen, hkey⟩ := ent i _ hp
    refine next_key_item st hgd hdt hsz hen fun h' st' sb => ?_
    have J : Inv X pins σ H { s with heap := h' } := I.turned (t' := s.toks) (fun b ob hb e => (sb.2 b hb).trans e) f0 f1 f3 f4 f5
    obtain ⟨oi, e, c, dd⟩ := id st'
    exact ⟨en.key, rfl, go_of (s := { s with heap := h' }) e c dd (by decide) ⟨_, H, J, hkey, ⟨rfl, _, hp, rfl⟩, st', fun b hb => (hf b hb).1⟩⟩
  done := fun X hP hw hK hc i pins s σ H E I hf st ⟨hd, hi⟩ => by
    subst hP hw hK
    obtain ⟨f0, f1, f2, f3, f4, f5⟩ := hf it (List.mem_singleton_self it)
    obtain ⟨hs, hgd, hx, es', ep', hdt, hsz, ent⟩ := frzN I hd
    obtain ⟨rfl, rfl⟩ := dict_ep hod hdt
    exact next_key_end (I.ok.hd hc) st hgd hdt hsz hi fun h' eb => ⟨rfl, I.turned (t' := s.toks) (fun b ob hb e => eb b ob hb e) f0 f1 f3 f4 f5⟩
  self := fun A i s Q E st h => wpAny_pyIter_keyiter st h
def iKeysN (X : Cx) (td : TE) : TI := fun σ H R => td σ H fun x H1 => ∃ d o ks, x = .ref d ∧ H1 d = some (.frz o (dnO X.w d ks)) ∧ R (ItN X.w d o ks) H1
theorem pi_keysN {X : Cx} {tg e : Expr} {td : TE} (he : PE X e td) : PI X tg e (iKeysN X td) := by
  refine ⟨fun pins s σ H R I h => thn (he.run pins s σ H _ I h) fun u s1 ⟨x, H1, I1, rx, d, o, ks, ex, hd, q⟩ => ?_⟩
  subst ex
  obtain rfl : u = Value.ref d := rx
  obtain ⟨hs, hgd, hx, es, ep, hdt, hsz, _⟩ := frzN I1 hd
  refine iter_keys hs hgd hx hdt (pi_one (tk := s1.toks) I1 _ (turn_keysN _ hdt) ⟨_, Heap.get?_push_size _ rfl, rfl, ?_⟩ q)
  rw [hsz] <;> rfl
theorem vals_at : ∀ {xs : List V} {us : List Value}, xs.length = us.length → (∀ (i : Nat) (x : V), xs[i]? = some x → ∃ u, us[i]? = some u ∧ RelV x u) → Vals xs us
  | [], [], _, _ => .nil
  | [], _ :: _, h, _ => nomatch h
  | _ :: _, [], h, _ => nomatch h
  | x :: xs, u :: us, hl, h => by
    obtain ⟨u', h1, h2⟩ := h 0 x rfl
    cases h1
    exact .cons h2 (vals_at (by simpa using hl) fun i y hy => by simpa using h (i + 1) y (by simpa using hy))
/-! ### {None: v} -/
end MP


set_option Elab.async false
set_option linter.all false
set_option maxRecDepth 100000
set_option maxHeartbeats 4000000
/-! MPD5: comprehensions that make such dicts -/
namespace MP
open PySem L2 PyProof.Rows
theorem dn_fresh {P : Program} {w : World} {H : Hp} (h : Heap) (big : sysModules < h.objs.size) : ObjOk P w H (h.push { cls := .type "dict", data := .dict #[] }) h.objs.size (dnO w h.objs.size []) :=
  dn_ok (Nat.zero_le _) (beq_eq_false_iff_ne.mpr (Ne.symm (Nat.ne_of_lt big))) .nil ⟨_, #[], 0, Heap.get?_push_size _ rfl, ⟨rfl, rfl, rfl⟩, rfl, rfl, List.nodup_nil⟩
theorem setsN {X : Cx} {pins : List (Addr × Obj)} {σ : L2.St} {H H' : Hp} {s : Shared} {a : Addr} {y v : V} {u r : Value} {E : Value → Shared → Prop} {Q : Unit → Shared → Prop} (hu : X.A.units + 8 < cLine) (I : Inv X pins σ H s) (g : DPutN X H a y v H') (ry : RelV y u) (rv : RelV v r) (h : ∀ s', Inv X pins σ H' s' → Q () s') :
    wpAny (model X.prog X.w) X.A (dictSet a u r) Q E s := by
  obtain ⟨ks, k, e, n, c, l, rfl⟩ := g
  obtain ⟨z, hd, xs, rel, dd⟩ := dn_rd I (.inl e)
  refine setN hu ⟨c.is rfl I ry, c.dp⟩ c.nt dd (nks_of I n rel) (by rw [← rel.len]; exact z) fun h' t dd' hs => h _ ?_
  have hl : (putV ks k y v).length ≤ sizeLine := by have := putV_len (ks := ks) (k := k) (y := y) (v := v); omega
  exact d_write I (by rw [e]; exact True.intro) hs (let ⟨q, _, _, hq, _⟩ := dd'; ⟨q, hq⟩) (dn_ok hl hd (rel.put ry rv) dd')
/-- what a comprehension's pass is asked to do, over the new dict at D -/
def PassN (X : Cx) (g : TG) (tt : TT) (tk tv : TE) (vs : List Nat) (σ : L2.St) (D : Addr) (Nx : Hp → Prop) (x : V) (H : Hp) : Prop :=
  g x (L2.wipe σ vs) H fun σ2 H2 => L2.wipe σ2 vs = L2.wipe σ vs ∧ tt σ2 H2 fun b H3 => if b = true then tk σ2 H3 fun y H4 => tv σ2 H4 fun z H5 => ∃ H6, DPutN X H5 D y z H6 ∧ Nx H6 else Nx H3
def tDcN (X : Cx) (wi : TI) (g : TG) (tt : TT) (tk tv : TE) (vs : List Nat) : TE := fun σ H Q => wi σ H fun J H1 => ∀ D, H1 D = none → ∃ M : Nat → Nat → Hp → Prop, (∃ m, M 0 m (upd H1 D (dnO X.w D []))) ∧
  ∀ i m H, M i m H → (J.stop i H ∧ Q (.ref D) H) ∨ (J.go i H ∧ ∃ Nx : Hp → Prop, (∀ H', Nx H' → ∃ m', m' < m ∧ M (i + 1) m' H') ∧ ∀ x H', J.yld i H x H' → PassN X g tt tk tv vs σ D Nx x H')
section
variable {X : Cx} {pins : List (Addr × Obj)} {σ : L2.St} {H0 : Hp} {s0 : Shared} {scope : Scope} {cv : Env} {ft : List Addr} {kx vx tg iter : Expr} {ifs : List Expr} {pos : Pos} {g : TG} {tt : TT} {tk tv : TE} {vs : List Nat} {J : It} {it D : Addr} {tn : Nat → Heap → Prop}
/-- the state between two passes -/
structure Betw (X : Cx) (s0 : Shared) (H0 : Hp) (scope : Scope) (cv : Env) (ft : List Addr) (σ : L2.St) (vs : List Nat) (tn : Nat → Heap → Prop) (i : Nat) (H : Hp) (s : Shared) : Prop where
  inv : Inv (X.blk s0 H0 scope cv ft) [] (L2.wipe σ vs) H s
  tn : tn i s.heap
  no : ∀ b ∈ ft, H b = none
theorem turnOk {σ' : L2.St} {H : Hp} {s : Shared} (I : Inv (X.blk s0 H0 scope cv ft) [] σ' H s) (no : ∀ b ∈ ft, H b = none) (b : Addr) (hb : b ∈ ft) : FpOk (X.blk s0 H0 scope cv ft) [] H b := by
  obtain ⟨e1, e2⟩ := I.ok.exf b hb
  refine ⟨no b hb, e1, I.ok.exfs b hb, Or.inl hb, fun x c e => e2 x c e, fun p hp => ?_⟩
  have : p ∈ ([] : List (Addr × Obj)) ++ [] := hp
  cases this
/-- behind a pass -/
theorem Betw.next {H' : Hp} {s s' : Shared} {σ' : L2.St} {i : Nat} (T : Turn X.prog X.w X.K tg J ft it tn) (hσ : L2.wipe σ' vs = L2.wipe σ vs) (ht : tn i s.heap) (I : Inv (X.blk s0 H0 scope cv ft) ([] ++ pinsAt ft s.heap) σ' H' s') : Betw X s0 H0 scope cv ft σ vs tn i H' s' := by
  have held : ∀ b ∈ ft, ∀ o, s.heap.get? b = some o → s'.heap.get? b = some o ∧ H' b = none := fun b hb o e => by
    have := I.pin (b, o) (List.mem_append_right _ (List.mem_append_right _ (mem_pinsAt hb e)))
    exact ⟨this.1, this.2.1⟩
  refine ⟨(I.unpinned (pins := [])).weak (by rw [← hσ, L2.wipe_length]) fun j v e => ?_, T.keep i s.heap s'.heap ht fun b hb o e => (held b hb o e).1, fun b hb => ?_⟩
  · rw [← hσ] at e
    exact (L2.wipe_some e).1
  · obtain ⟨o, e, _⟩ := T.obj i s.heap ht b hb
    exact (held b hb o e).2
/-- the passes, one by one -/
theorem passes {R : Result → Shared → Prop} {M : Nat → Nat → Hp → Prop} (hu : X.A.units + 8 < cLine) (hc : X.calm = true) (T : Turn X.prog X.w X.K tg J ft it tn) (pg : PG (X.blk s0 H0 scope cv ft) tg g) (pt : PTs (X.blk s0 H0 scope cv ft) ifs tt) (pk : PE (X.blk s0 H0 scope cv ft) kx tk) (pv : PE (X.blk s0 H0 scope cv ft) vx tv)
    {Fin : Hp → Prop} (plan : ∀ i m H, M i m H → (J.stop i H ∧ Fin H) ∨ (J.go i H ∧ ∃ Nx : Hp → Prop, (∀ H', Nx H' → ∃ m', m' < m ∧ M (i + 1) m' H') ∧ ∀ x H', J.yld i H x H' → PassN X g tt tk tv vs σ D Nx x H'))
    (out : ∀ H s, Inv (X.blk s0 H0 scope cv ft) [] (L2.wipe σ vs) H s → Fin H → R (.ok .next) s) {m : Nat} {s : Shared} {H : Hp} (start : M 0 m H) (at0 : Betw X s0 H0 scope cv ft σ vs tn 0 H s) :
    codeAny (model X.prog X.w) X.A (.compLoop (.DictComp kx vx [⟨tg, iter, ifs, 0⟩] scope pos) 0 (.ref it) (.ref D) cv) R s := by
  refine compLoop_anyD (fun n s' => ∃ i H', Betw X s0 H0 scope cv ft σ vs tn i H' s' ∧ M i n H') (fun n sa ⟨i, Ha, Ba, Ma⟩ => ?_) m ⟨0, H, at0, start⟩
  rcases plan i n Ha Ma with ⟨stop, fin⟩ | ⟨go, Nx, less, pass⟩
  · refine thnF (T.done (X.blk s0 H0 scope cv ft) rfl rfl rfl hc i [] sa _ Ha (fun _ _ => False) Ba.inv (turnOk Ba.inv Ba.no) Ba.tn stop) fun r sb ⟨hr, Ib⟩ => ?_
    rw [hr]
    exact out Ha sb Ib fin
  · refine thnF (T.item (X.blk s0 H0 scope cv ft) rfl rfl rfl hc i [] sa _ Ha (fun _ _ => False) Ba.inv (turnOk Ba.inv Ba.no) Ba.tn go) fun r sb ⟨u, hr, hb⟩ => ?_
    rw [hr]
    refine thnF hb fun _ sc ⟨x, Hc, Ic, rx, yc, tc, nc⟩ => ?_
    have close : ∀ {σ' : L2.St} {s' : Shared} {H' : Hp}, L2.wipe σ' vs = L2.wipe σ vs → Inv (X.blk s0 H0 scope cv ft) ([] ++ pinsAt ft sc.heap) σ' H' s' → Nx H' → ∃ m', m' < n ∧ ∃ i H', Betw X s0 H0 scope cv ft σ vs tn i H' s' ∧ M i m' H' := fun {σ' s' H'} hσ I nx => by
      obtain ⟨m', lt, mm⟩ := less H' nx
      exact ⟨m', lt, i + 1, H', Betw.next T hσ tc I, mm⟩
    refine thnF (pg.run _ sc _ Hc x u _ (Ic.pinned (turnOk Ic nc) (T.obj _ _ tc)) rx (pass x Hc yc)) fun _ sd ⟨σd, Hd, Id, hσ, qd⟩ => ?_
    refine thnF (pt.run _ sd σd Hd _ Id qd) fun b se ⟨He, Ie, qe⟩ => ?_
    cases b with
    | false => exact close hσ Ie (by simpa using qe)
    | true =>
      have qe : tk σd He fun y H4 => tv σd H4 fun z H5 => ∃ H6, DPutN X H5 D y z H6 ∧ Nx H6 := by simpa using qe
      show wpAny _ _ _ _ _ _
      refine thnF (pk.run _ se σd He _ Ie qe) fun kv sf ⟨y, Hf, If, ry, qf⟩ => ?_
      refine thnF (pv.run _ sf σd Hf _ If qf) fun vv sg ⟨z, Hg, Ig, rz, H6, dp, nx⟩ => ?_
      exact setsN (X := X.blk s0 H0 scope cv ft) hu Ig dp ry rz fun sh Ih => close hσ Ih nx
end
section
variable {X : Cx} {scope : Scope} {own : List (Str × Nat)} {kx vx tg iter : Expr} {ifs : List Expr} {pos : Pos} {wi : TI} {g : TG} {tt : TT} {tk tv : TE}
/-- out of a block: the def's own state; the block's locals are nobody's -/
theorem behind {pins : List (Addr × Obj)} {σ τ : L2.St} {Hd H : Hp} {sd s' : Shared} {ft : List Addr} {cl : List (Str × Addr)} (Id : Inv X pins σ Hd sd) (fd : ∀ b ∈ ft, FpOk X pins Hd b) (B : Inv (X.blk sd Hd scope (compEnvC scope cl sd.heap.objs.size X.env) ft) [] τ H s') :
    Inv X pins σ H s' ∧ (∃ m, s'.heap.Ns sd.heap.objs.size m) ∧ FpOk X pins H sd.heap.objs.size := by
  have I : Inv X pins σ H s' := Id.call' (ch := ft) B.os B.base B.hok B.bare fun b hb => by
    obtain ⟨_, nl, _, own, nc, np⟩ := fd b hb
    exact ⟨own, nl, nc, np⟩
  have out : H sd.heap.objs.size = none := B.free
  obtain ⟨m, ns, _⟩ := B.loc
  exact ⟨I, ⟨m, ns⟩, Id.fpOk (Nat.le_refl _) out⟩
/-- such an address may be written at will -/
theorem loose {pins : List (Addr × Obj)} {σ : L2.St} {H : Hp} {s : Shared} {C : Addr} (I : Inv X pins σ H s) (f : FpOk X pins H C) {h' : Heap} (same : Heap.SameBut C s.heap h') : Inv X pins σ H { s with heap := h' } := by
  obtain ⟨o1, o2, _, o4, o5, o6⟩ := f
  exact I.turned (t' := s.toks) (fun b o nb e => (same.2 b nb).trans e) o1 o2 o4 o5 o6
/-- {k: v for target in iter if ..} whose keys are None or tuples, whatever is done with it -/
theorem dcN_core {pins : List (Addr × Obj)} {s : Shared} {σ : L2.St} {H : Hp} {Q : VK} {pos' : Pos} {use : Option (Value → Sem Unit)} {Qf : Value → Shared → Prop} (I : Inv X pins σ H s) (hu : X.A.units + 8 < cLine) (hc : X.calm = true) (hN : X.N.Nodup) (hi : PI X tg iter wi) (ok : BlkOk X.N X.env.scope scope own)
    (hg : ∀ (s : Shared) (H : Hp) (C : Addr) (cl : List (Str × Addr)) (ft : List Addr), PG (X.blk s H scope (compEnvC scope cl C X.env) ft) tg g)
    (ht : ∀ (s : Shared) (H : Hp) (C : Addr) (cl : List (Str × Addr)) (ft : List Addr), PTs (X.blk s H scope (compEnvC scope cl C X.env) ft) ifs tt)
    (hk : ∀ (s : Shared) (H : Hp) (C : Addr) (cl : List (Str × Addr)) (ft : List Addr), PE (X.blk s H scope (compEnvC scope cl C X.env) ft) kx tk)
    (hv : ∀ (s : Shared) (H : Hp) (C : Addr) (cl : List (Str × Addr)) (ft : List Addr), PE (X.blk s H scope (compEnvC scope cl C X.env) ft) vx tv)
    (hs : ∀ x, foldedSetIterable iter X.env x = pure x) (want : tDcN X wi g tt tk tv (own.map (·.2)) σ H Q)
    (close : ∀ D C s' m H', Inv X pins σ H' s' → Q (.ref D) H' → s'.heap.Ns C m → FpOk X pins H' C → compPost (model X.prog X.w) X.A X.xe use Qf (.ref D) C (.ok .next) s') :
    wpAny (model X.prog X.w) X.A (comprehension (.DictComp kx vx [⟨tg, iter, ifs, 0⟩] scope pos) scope X.env pos' newDict false (eval iter X.env) use) Qf X.xe s := by
  have inCell : ∀ y ∈ scope.names, y.2 = .free → ∃ c, X.env.cells.lookup y.1 = some c := fun y hy e => I.ok.has y.1 (ok.free y hy e)
  refine wpAny_comprehension_free (use := use) rfl hs (closure_ok inCell) ok.kind (fun y hy e => by rw [ok.uniq y hy, e]) (thn (hi.run pins s σ H _ I want) fun x s1 h1 => thn h1 fun itv s2 ⟨it, ft, tn, J, H2, eit, I2, T, t2, f2, q⟩ => ?_)
  subst eit
  refine wpAny_newObj_type (newEnv_comp ?_)
  obtain ⟨M, ⟨m, start⟩, plan⟩ := q s2.heap.objs.size (I2.hok.fresh (Nat.le_refl _))
  have below : ∀ b ∈ ft, b < s2.heap.objs.size := fun b hb => let ⟨o, e, _⟩ := T.obj 0 s2.heap t2 b hb; Heap.lt_size e
  -- the new dict is laid
  have push : ∀ b o, s2.heap.get? b = some o → (s2.heap.push { cls := .type "dict", data := .dict #[] }).get? b = some o := fun b o e => Heap.get?_push_of_some _ e
  have Id : Inv X pins σ (upd H2 s2.heap.objs.size (dnO X.w s2.heap.objs.size [])) { s2 with heap := s2.heap.push { cls := .type "dict", data := .dict #[] } } := I2.laid (t' := s2.toks) push (Nat.le_refl _) (dn_fresh s2.heap I2.big)
  generalize hsd : ({ s2 with heap := s2.heap.push { cls := .type "dict", data := .dict #[] } } : Shared) = sd at Id
  have td : tn 0 sd.heap := by rw [← hsd]; exact T.keep 0 s2.heap _ t2 fun b _ o e => push b o e
  have szd : sd.heap.objs.size = s2.heap.objs.size + 1 := by rw [← hsd]; exact Heap.size_push _ _
  have fd : ∀ b ∈ ft, FpOk X pins (upd H2 s2.heap.objs.size (dnO X.w s2.heap.objs.size [])) b ∧ b < sd.heap.objs.size := fun b hb => by
    have lt := below b hb
    obtain ⟨n1, n2⟩ := f2 b hb
    exact ⟨⟨by rw [upd_ne (Nat.ne_of_lt lt)]; exact n1, n2⟩, by rw [szd]; exact Nat.lt_succ_of_lt lt⟩
  generalize s2.heap.objs.size = D at *
  generalize upd H2 D (dnO X.w D []) = Hd at *
  have Ib := block_start Id ok hN fd
  generalize hcl : cellsFrom (sd.heap.objs.size + 1) scope.names (cloFrom X.env.cells scope.names []) = cl at Ib
  generalize hsb : ({ sd with heap := pushCells (sd.heap.push { cls := .type "dict", data := .dict #[] }) scope.names } : Shared) = sb at Ib
  have tb : tn 0 sb.heap := by rw [← hsb]; exact T.keep 0 sd.heap _ td fun b _ o e => pushCells_keeps _ _ _ _ (Heap.get?_push_of_some _ e)
  have no : ∀ b ∈ ft, Hd b = none := fun b hb => (fd b hb).1.1
  have loop := passes (iter := iter) (pos := pos) (scope := scope) (X := X) (s0 := sd) (H0 := Hd) (cv := compEnvC scope cl sd.heap.objs.size X.env) (tn := tn) (it := it) (D := D) (Fin := fun H' => Q (.ref D) H') (R := compPost (model X.prog X.w) X.A X.xe use Qf (.ref D) sd.heap.objs.size) hu hc T (hg sd Hd sd.heap.objs.size cl ft) (ht sd Hd sd.heap.objs.size cl ft) (hk sd Hd sd.heap.objs.size cl ft) (hv sd Hd sd.heap.objs.size cl ft) plan
    (fun H' s' B fin => by
      obtain ⟨I', ⟨m', ns⟩, f⟩ := behind Id (fun b hb => (fd b hb).1) B
      exact close D _ s' m' H' I' fin ns f) start ⟨Ib, tb, no⟩
  exact codeAny_compStart_dict loop (T.self X.A 0 _ _ _ tb loop)
/-- as a value -/
theorem pe_dcN (hu : X.A.units + 8 < cLine) (hc : X.calm = true) (hN : X.N.Nodup) (hi : PI X tg iter wi) (ok : BlkOk X.N X.env.scope scope own)
    (hg : ∀ (s : Shared) (H : Hp) (C : Addr) (cl : List (Str × Addr)) (ft : List Addr), PG (X.blk s H scope (compEnvC scope cl C X.env) ft) tg g)
    (ht : ∀ (s : Shared) (H : Hp) (C : Addr) (cl : List (Str × Addr)) (ft : List Addr), PTs (X.blk s H scope (compEnvC scope cl C X.env) ft) ifs tt)
    (hk : ∀ (s : Shared) (H : Hp) (C : Addr) (cl : List (Str × Addr)) (ft : List Addr), PE (X.blk s H scope (compEnvC scope cl C X.env) ft) kx tk)
    (hv : ∀ (s : Shared) (H : Hp) (C : Addr) (cl : List (Str × Addr)) (ft : List Addr), PE (X.blk s H scope (compEnvC scope cl C X.env) ft) vx tv)
    (hs : ∀ x, foldedSetIterable iter X.env x = pure x := by intro _; rfl) : PE X (.DictComp kx vx [⟨tg, iter, ifs, 0⟩] scope pos) (tDcN X wi g tt tk tv (own.map (·.2))) := by
  refine ⟨fun pins s σ H Q I want => ?_⟩
  rw [arm_eval_DictComp]
  exact dcN_core (σ := σ) I hu hc hN hi ok hg ht hk hv hs want fun D C s' m H' I' fin ns f => ⟨m, ns, fun h' same => ⟨.ref D, H', loose I' f same, rfl, fin⟩⟩
end
end MP


set_option Elab.async false
set_option linter.all false
set_option maxRecDepth 100000
set_option maxHeartbeats 4000000
/-! MP1: values, store, representation, readings -/
namespace MP
open PySem L2

inductive D where
  | non | bl (b : Bool) | int (i : Int) | str (s : Str) | lst (l : List D) | tup (l : List D) | dct (ks : List Key) (vs : List D) | ref (n : Nat) | scr (ns : List Int)

inductive Ob where
  | gone | lst (l : List D) | dct (l : List (Key × D)) | ins (C : Str) (fs : List (Str × D)) | dfz (l : List (Key × D)) | dn (l : List (D × D)) | dnz (l : List (D × D))

abbrev Sto := List Ob
abbrev Env := List (Option D)
structure Xc where
  cls : Str
  fs : List (Str × D)
inductive R (α : Type) where
  | ok (a : α) (s : Sto)
  | ex (x : Xc) (s : Sto)
abbrev RO (α : Type) := Option (R α)
abbrev ME := Env → Sto → RO D
abbrev MA := Env → Sto → RO (List D)
abbrev MT := Env → Sto → RO Bool
abbrev FM := List D → Sto → RO D
def bnd {α β : Type} (x : RO α) (f : α → Sto → RO β) : RO β := match x with
  | some (.ok a s) => f a s
  | some (.ex e s) => some (.ex e s)
  | none => none
@[simp] theorem bnd_ok {α β : Type} (a : α) (s : Sto) (f : α → Sto → RO β) : bnd (some (.ok a s)) f = f a s := rfl
@[simp] theorem bnd_ex {α β : Type} (x : Xc) (s : Sto) (f : α → Sto → RO β) : bnd (some (.ex x s)) f = some (.ex x s) := rfl
@[simp] theorem bnd_none {α β : Type} (f : α → Sto → RO β) : bnd none f = none := rfl

/-! ### representation -/
mutual
inductive Rp (K : PySem.W.Frag) (Z : Hp) (ι : List Addr) : V → D → Prop where
  | non : Rp K Z ι .non .non
  | bl (b : Bool) : Rp K Z ι (.bl b) (.bl b)
  | int (i : Int) : Rp K Z ι (.int i) (.int i)
  | str (s : Str) : Rp K Z ι (.str s) (.str s)
  | lst {a : Addr} {xs : List V} {ds : List D} (h : Z a = some (.lst xs)) (r : RpL K Z ι xs ds) : Rp K Z ι (.ref a) (.lst ds)
  | tup {a : Addr} {xs : List V} {ds : List D} (h : SqT K Z a xs) (r : RpL K Z ι xs ds) : Rp K Z ι (.ref a) (.tup ds)
  | dct {a : Addr} {ks : List Key} {xs : List V} {ds : List D} (hl : ks.length = xs.length) (h : Z a = some (.dK (ks.zip xs))) (r : RpL K Z ι xs ds) : Rp K Z ι (.ref a) (.dct ks ds)
  | ref {n : Nat} {a : Addr} (h : ι[n]? = some a) : Rp K Z ι (.ref a) (.ref n)
  | scr {a : Addr} {ns : List Int} (h : SqL K Z a (ns.map V.int)) : Rp K Z ι (.ref a) (.scr ns)
inductive RpL (K : PySem.W.Frag) (Z : Hp) (ι : List Addr) : List V → List D → Prop where
  | nil : RpL K Z ι [] []
  | cons {v : V} {vs : List V} {d : D} {ds : List D} (h : Rp K Z ι v d) (r : RpL K Z ι vs ds) : RpL K Z ι (v :: vs) (d :: ds)
end

/-- no table of code objects -/
def NT (o : HO) : Prop := ∀ ps, o ≠ .tbl ps
theorem nt_ext {F : Heap → Prop} : NT (.ext F) := fun ps z => by cases z
/-- all but the tables stay -/
def SameN (Z Z' : Hp) : Prop := ∀ b o, Z b = some o → NT o → Z' b = some o
theorem Same.nt {Z Z' : Hp} (h : Same Z Z') : SameN Z Z' := fun b o e _ => h b o e
structure Ext (Z : Hp) (ι : List Addr) (Z' : Hp) (ι' : List Addr) : Prop where
  zs : SameN Z Z'
  i : ∃ t, ι' = ι ++ t
theorem Ext.z {Z Z' : Hp} {ι ι' : List Addr} (g : Ext Z ι Z' ι') (b : Addr) (o : HO) (h : Z b = some o) (n : NT o := by first | exact nt_ext | (intro ps z; cases z)) : Z' b = some o := g.zs b o h n
theorem Ext.refl (Z : Hp) (ι : List Addr) : Ext Z ι Z ι := ⟨fun _ _ h _ => h, [], (List.append_nil ι).symm⟩
theorem Ext.trans {Z Z1 Z2 : Hp} {ι ι1 ι2 : List Addr} (a : Ext Z ι Z1 ι1) (b : Ext Z1 ι1 Z2 ι2) : Ext Z ι Z2 ι2 := by
  obtain ⟨a1, t, rfl⟩ := a
  obtain ⟨b1, u, rfl⟩ := b
  exact ⟨fun b o h n => b1 b o (a1 b o h n) n, t ++ u, by rw [List.append_assoc]⟩
theorem Ext.get {Z Z' : Hp} {ι ι' : List Addr} (g : Ext Z ι Z' ι') {n : Nat} {a : Addr} (h : ι[n]? = some a) : ι'[n]? = some a := by
  obtain ⟨_, t, rfl⟩ := g
  have hl : n < ι.length := (List.getElem?_eq_some_iff.mp h).1
  rw [List.getElem?_append_left hl]
  exact h
theorem same_sql {K : PySem.W.Frag} {H H' : Hp} {a : Addr} {xs : List V} (e : Same H H') (h : SqL K H a xs) : SqL K H' a xs := by
  rcases h with (h | ⟨o, h⟩) | h
  · exact .inl (.inl (e _ _ h))
  · exact .inl (.inr ⟨o, e _ _ h⟩)
  · exact .inr h
theorem same_sqt {K : PySem.W.Frag} {H H' : Hp} {a : Addr} {xs : List V} (e : Same H H') (h : SqT K H a xs) : SqT K H' a xs := by
  rcases h with (h | ⟨o, h⟩) | h
  · exact .inl (.inl (e _ _ h))
  · exact .inl (.inr ⟨o, e _ _ h⟩)
  · exact .inr h
theorem same_sqlN {K : PySem.W.Frag} {H H' : Hp} {a : Addr} {xs : List V} (e : SameN H H') (h : SqL K H a xs) : SqL K H' a xs := by
  rcases h with (h | ⟨o, h⟩) | h
  · exact .inl (.inl (e _ _ h fun ps z => by cases z))
  · exact .inl (.inr ⟨o, e _ _ h fun ps z => by cases z⟩)
  · exact .inr h
theorem same_sqtN {K : PySem.W.Frag} {H H' : Hp} {a : Addr} {xs : List V} (e : SameN H H') (h : SqT K H a xs) : SqT K H' a xs := by
  rcases h with (h | ⟨o, h⟩) | h
  · exact .inl (.inl (e _ _ h fun ps z => by cases z))
  · exact .inl (.inr ⟨o, e _ _ h fun ps z => by cases z⟩)
  · exact .inr h
section
variable {K : PySem.W.Frag} {Z Z' : Hp} {ι ι' : List Addr}
mutual
theorem Rp.mono (g : Ext Z ι Z' ι') : ∀ {v : V} {d : D}, Rp K Z ι v d → Rp K Z' ι' v d
  | _, _, .non => .non
  | _, _, .bl b => .bl b
  | _, _, .int i => .int i
  | _, _, .str s => .str s
  | _, _, .lst h r => .lst (g.z _ _ h) (RpL.mono g r)
  | _, _, .tup h r => .tup (same_sqtN g.zs h) (RpL.mono g r)
  | _, _, .dct hl h r => .dct hl (g.z _ _ h) (RpL.mono g r)
  | _, _, .ref h => .ref (g.get h)
  | _, _, .scr h => .scr (same_sqlN g.zs h)
theorem RpL.mono (g : Ext Z ι Z' ι') : ∀ {vs : List V} {ds : List D}, RpL K Z ι vs ds → RpL K Z' ι' vs ds
  | _, _, .nil => .nil
  | _, _, .cons h r => .cons (Rp.mono g h) (RpL.mono g r)
end
theorem RpL.length : ∀ {vs : List V} {ds : List D}, RpL K Z ι vs ds → vs.length = ds.length
  | _, _, .nil => rfl
  | _, _, .cons _ r => congrArg Nat.succ r.length
theorem RpL.get : ∀ {vs : List V} {ds : List D} {i : Nat} {d : D}, RpL K Z ι vs ds → ds[i]? = some d → ∃ v, vs[i]? = some v ∧ Rp K Z ι v d
  | _, _, _, _, .nil, e => by simp at e
  | _, _, 0, _, .cons h _, e => by simp at e; subst e; exact ⟨_, rfl, h⟩
  | _, _, i + 1, _, .cons _ r, e => by
    obtain ⟨v, h1, h2⟩ := RpL.get (i := i) r (by simpa using e)
    exact ⟨v, by simpa using h1, h2⟩
theorem RpL.append : ∀ {vs ws : List V} {ds es : List D}, RpL K Z ι vs ds → RpL K Z ι ws es → RpL K Z ι (vs ++ ws) (ds ++ es)
  | _, _, _, _, .nil, s => s
  | _, _, _, _, .cons h r, s => .cons h (r.append s)
theorem RpL.one {v : V} {d : D} (h : Rp K Z ι v d) : RpL K Z ι [v] [d] := .cons h .nil
theorem RpL.set {v : V} {d : D} (h : Rp K Z ι v d) : ∀ {vs : List V} {ds : List D} (i : Nat), RpL K Z ι vs ds → RpL K Z ι (vs.set i v) (ds.set i d)
  | _, _, _, .nil => .nil
  | _, _, 0, .cons _ r => .cons h r
  | _, _, i + 1, .cons q r => .cons q (RpL.set h i r)
theorem RpL.take : ∀ {vs : List V} {ds : List D} (n : Nat), RpL K Z ι vs ds → RpL K Z ι (vs.take n) (ds.take n)
  | _, _, 0, _ => .nil
  | _, _, _ + 1, .nil => .nil
  | _, _, n + 1, .cons h r => .cons h (r.take n)
theorem RpL.drop : ∀ {vs : List V} {ds : List D} (n : Nat), RpL K Z ι vs ds → RpL K Z ι (vs.drop n) (ds.drop n)
  | _, _, 0, r => r
  | _, _, _ + 1, .nil => .nil
  | _, _, n + 1, .cons _ r => RpL.drop n r
end

/-! ### the store -/
/-- the world, where it matters (the hashes of texts) -/
class Wd where
  w : World
  T : List (Addr × Str)
mutual
def keyN : D → Option NestedKey
  | .non => some .none
  | .int i => some (.num i)
  | .str s => some (.text s)
  | .tup l => (keyNs l).map .tup
  | _ => none
def keyNs : List D → Option (List NestedKey)
  | [] => some []
  | d :: l => (keyN d).bind fun k => (keyNs l).map (k :: ·)
end
def RpN (K : PySem.W.Frag) (Z : Hp) (ι : List Addr) (ks : List NV) (kvs : List (D × D)) : Prop := Paired (fun (p : NV) (q : D × D) => keyN q.1 = some p.1 ∧ p.1.depth ≤ 8 ∧ Rp K Z ι p.2.1 q.1 ∧ Rp K Z ι p.2.2 q.2) ks kvs
variable [Wd]
theorem nodup_inj {α : Type} : ∀ {l : List α} (_ : l.Nodup) {i j : Nat} (hi : i < l.length) (hj : j < l.length), l[i] = l[j] → i = j
  | [], _, _, _, hi, _, _ => absurd hi (Nat.not_lt_zero _)
  | a :: l, h, 0, 0, _, _, _ => rfl
  | a :: l, h, 0, j + 1, _, hj, e => by
    have h1 := (List.nodup_cons.mp h).1
    exact absurd (by simpa using (show a = l[j]'(Nat.lt_of_succ_lt_succ hj) from e) ▸ List.getElem_mem _) h1
  | a :: l, h, i + 1, 0, hi, _, e => by
    have h1 := (List.nodup_cons.mp h).1
    exact absurd (by simpa using (show a = l[i]'(Nat.lt_of_succ_lt_succ hi) from (show l[i]'(Nat.lt_of_succ_lt_succ hi) = a from e).symm) ▸ List.getElem_mem _) h1
  | a :: l, h, i + 1, j + 1, hi, hj, e => congrArg Nat.succ (nodup_inj (List.nodup_cons.mp h).2 (Nat.lt_of_succ_lt_succ hi) (Nat.lt_of_succ_lt_succ hj) (by simpa using e))
def RpK (K : PySem.W.Frag) (Z : Hp) (ι : List Addr) (ks : List (Key × V)) (kvs : List (Key × D)) : Prop := Paired (fun (p : Key × V) (q : Key × D) => p.1 = q.1 ∧ Rp K Z ι p.2 q.2) ks kvs
def RpF (K : PySem.W.Frag) (Z : Hp) (ι : List Addr) (ks : List (Str × V)) (kvs : List (Str × D)) : Prop := Paired (fun (p : Str × V) (q : Str × D) => p.1 = q.1 ∧ Rp K Z ι p.2 q.2) ks kvs
def ObR (K : PySem.W.Frag) (Z : Hp) (ι : List Addr) (H : Hp) (a : Addr) : Ob → Prop
  | .gone => ∃ o, H a = some o
  | .lst ds => Z a = none ∧ ∃ xs, H a = some (.lst xs) ∧ RpL K Z ι xs ds
  | .dct kvs => Z a = none ∧ ∃ ks, H a = some (.dK ks) ∧ RpK K Z ι ks kvs
  | .ins C fs => Z a = none ∧ ∃ dx gs, H a = some (.ins (He.ga K C) dx gs) ∧ RpF K Z ι gs fs
  | .dfz kvs => (∃ u, H a = some u) ∧ ∃ o ks, Z a = some (.frz o (.dK ks)) ∧ RpK K Z ι ks kvs
  | .dn kvs => Z a = none ∧ ∃ ks, H a = some (dnO Wd.w a ks) ∧ RpN K Z ι ks kvs
  | .dnz kvs => (∃ u, H a = some u) ∧ ∃ o ks, Z a = some (.frz o (dnO Wd.w a ks)) ∧ RpN K Z ι ks kvs
structure Rel (K : PySem.W.Frag) (st : Sto) (H Z : Hp) (ι : List Addr) : Prop where
  zin : Same Z H
  tb : LamX.Tabs Wd.T Z
  len : ι.length = st.length
  nd : ι.Nodup
  ob : ∀ (n : Nat) (o : Ob) (a : Addr), st[n]? = some o → ι[n]? = some a → ObR K Z ι H a o
theorem ObR.there {K : PySem.W.Frag} {Z : Hp} {ι : List Addr} {H : Hp} {a : Addr} {o : Ob} (h : ObR K Z ι H a o) : ∃ u, H a = some u := by
  cases o with
  | gone => exact h
  | lst ds => obtain ⟨_, xs, e, _⟩ := h; exact ⟨_, e⟩
  | dct ds => obtain ⟨_, xs, e, _⟩ := h; exact ⟨_, e⟩
  | ins C fs => obtain ⟨_, dx, gs, e, _⟩ := h; exact ⟨_, e⟩
  | dfz ds => exact h.1
  | dn ds => obtain ⟨_, ks, e, _⟩ := h; exact ⟨_, e⟩
  | dnz ds => exact h.1
section
variable {K : PySem.W.Frag} {Z Z' H H' : Hp} {ι ι' : List Addr} {st : Sto}
theorem RpK.mono (g : Ext Z ι Z' ι') {ks : List (Key × V)} {kvs : List (Key × D)} (h : RpK K Z ι ks kvs) : RpK K Z' ι' ks kvs := Paired.mapP h fun _ _ q => ⟨q.1, q.2.mono g⟩
theorem RpN.mono (g : Ext Z ι Z' ι') {ks : List NV} {kvs : List (D × D)} (h : RpN K Z ι ks kvs) : RpN K Z' ι' ks kvs := Paired.mapP h fun _ _ q => ⟨q.1, q.2.1, q.2.2.1.mono g, q.2.2.2.mono g⟩
theorem RpF.mono (g : Ext Z ι Z' ι') {ks : List (Str × V)} {kvs : List (Str × D)} (h : RpF K Z ι ks kvs) : RpF K Z' ι' ks kvs := Paired.mapP h fun _ _ q => ⟨q.1, q.2.mono g⟩
theorem Rel.at_ (r : Rel K st H Z ι) {n : Nat} {a : Addr} (h : ι[n]? = some a) : ∃ o, st[n]? = some o ∧ ObR K Z ι H a o := by
  have hl : n < st.length := by rw [← r.len]; exact (List.getElem?_eq_some_iff.mp h).1
  exact ⟨st[n], List.getElem?_eq_getElem hl, r.ob n _ a (List.getElem?_eq_getElem hl) h⟩
theorem Rel.fresh (r : Rel K st H Z ι) {p : Addr} (hp : H p = none) : Z p = none ∧ p ∉ ι := by
  refine ⟨r.zin.free hp, fun hm => ?_⟩
  obtain ⟨n, hn⟩ := List.getElem?_of_mem hm
  obtain ⟨o, _, h⟩ := r.at_ hn
  obtain ⟨u, e⟩ := h.there
  rw [hp] at e
  cases e
/-- the objects at other addresses stand as they stood -/
theorem ObR.keep {a : Addr} {o : Ob} (h : ObR K Z ι H a o) (g : Ext Z ι Z' ι') (hz : Z a = none → Z' a = none) (e : ∀ u, H a = some u → H' a = some u) : ObR K Z' ι' H' a o := by
  cases o with
  | gone => obtain ⟨u, q⟩ := h; exact ⟨u, e u q⟩
  | lst ds => obtain ⟨z, xs, q, r⟩ := h; exact ⟨hz z, xs, e _ q, r.mono g⟩
  | dct ds => obtain ⟨z, xs, q, r⟩ := h; exact ⟨hz z, xs, e _ q, r.mono g⟩
  | ins C fs => obtain ⟨z, dx, gs, q, r⟩ := h; exact ⟨hz z, dx, gs, e _ q, r.mono g⟩
  | dfz ds => obtain ⟨⟨u, z⟩, o, xs, q, r⟩ := h; exact ⟨⟨u, e _ z⟩, o, xs, g.z _ _ q, r.mono g⟩
  | dn ds => obtain ⟨z, ks, q, r⟩ := h; exact ⟨hz z, ks, e _ q, r.mono g⟩
  | dnz ds => obtain ⟨⟨u, z⟩, o, xs, q, r⟩ := h; exact ⟨⟨u, e _ z⟩, o, xs, g.z _ _ q, r.mono g⟩
/-- the state goes on: what is no box stands; new boxes and new immutable things are new (or let go boxes) -/
structure Kpg (ι : List Addr) (H H' : Hp) : Prop where
  n : ∀ b o, b ∉ ι → H b = some o → NT o → H' b = some o
  t : ∀ b ps, b ∉ ι → H b = some (.tbl ps) → ∃ ps', H' b = some (.tbl ps')
theorem Kpg.of {ι : List Addr} {H H' : Hp} (h : ∀ b o, b ∉ ι → H b = some o → H' b = some o) : Kpg ι H H' := ⟨fun b o hb e _ => h b o hb e, fun b ps hb e => ⟨ps, h b _ hb e⟩⟩
open Classical in
theorem Kpg.up {ι : List Addr} {H H1 H' : Hp} (k : Kpg ι H H1) (h : ∀ b o, b ∉ ι → H b ≠ none → H1 b = some o → H' b = some o) : Kpg ι H H' :=
  ⟨fun b o hb e n => h b o hb (by rw [e]; simp) (k.n b o hb e n), fun b ps hb e => let ⟨ps', e'⟩ := k.t b ps hb e; ⟨ps', h b _ hb (by rw [e]; simp) e'⟩⟩
theorem Kpg.there {ι : List Addr} {H H' : Hp} (k : Kpg ι H H') {b : Addr} {o : HO} (hb : b ∉ ι) (e : H b = some o) : ∃ o', H' b = some o' := by
  by_cases n : ∃ ps, o = .tbl ps
  · obtain ⟨ps, rfl⟩ := n
    obtain ⟨ps', e'⟩ := k.t b ps hb e
    exact ⟨_, e'⟩
  · exact ⟨_, k.n b o hb e fun ps z => n ⟨ps, z⟩⟩
structure Grow (Z : Hp) (ι : List Addr) (H : Hp) (Z' : Hp) (ι' : List Addr) (H' : Hp) : Prop extends Ext Z ι Z' ι' where
  kp : Kpg ι H H'
  new : ∀ b, b ∈ ι' → b ∈ ι ∨ H b = none
  zn : ∀ b o, Z' b = some o → (Z b).isSome = true ∨ H b = none ∨ b ∈ ι
theorem zsome {Z : Hp} {b : Addr} {o : HO} (e : Z b = some o) : (Z b).isSome = true := by rw [e]; rfl
theorem Grow.keep {Z Z' H H' : Hp} {ι ι' : List Addr} (g : Grow Z ι H Z' ι' H') (b : Addr) (o : HO) (hb : b ∉ ι) (h : H b = some o) (n : NT o := by first | exact nt_ext | (intro ps z; cases z)) : H' b = some o := g.kp.n b o hb h n
theorem Grow.refl (Z : Hp) (ι : List Addr) (H : Hp) : Grow Z ι H Z ι H := ⟨Ext.refl Z ι, .of fun _ _ _ h => h, fun _ h => .inl h, fun _ _ h => .inl (zsome h)⟩
theorem Grow.trans {Z Z1 Z2 H H1 H2 : Hp} {ι ι1 ι2 : List Addr} (a : Grow Z ι H Z1 ι1 H1) (b : Grow Z1 ι1 H1 Z2 ι2 H2) : Grow Z ι H Z2 ι2 H2 := by
  have back : ∀ c, H1 c = none → H c = none ∨ c ∈ ι := fun c h => by
    by_cases hc : c ∈ ι
    · exact .inr hc
    · cases e : H c with
      | none => exact .inl rfl
      | some o =>
        obtain ⟨o', e'⟩ := a.kp.there hc e
        rw [e'] at h; cases h
  have out : ∀ c o, c ∉ ι → H c = some o → c ∉ ι1 := fun c o hc h z => by
    rcases a.new c z with q | q
    · exact hc q
    · rw [q] at h; cases h
  refine ⟨a.toExt.trans b.toExt, ⟨fun c o hc h n => b.kp.n c o (out c o hc h) (a.kp.n c o hc h n) n, fun c ps hc h => ?_⟩, fun c hc => ?_, fun c o h => ?_⟩
  · obtain ⟨ps1, h1⟩ := a.kp.t c ps hc h
    exact b.kp.t c ps1 (out c _ hc h) h1
  · rcases b.new c hc with q | q
    · exact a.new c q
    · rcases back c q with z | z
      · exact .inr z
      · exact .inl z
  · rcases b.zn c o h with q | q | q
    · obtain ⟨o', q⟩ := Option.isSome_iff_exists.mp q
      exact a.zn c o' q
    · rcases back c q with z | z
      · exact .inr (.inl z)
      · exact .inr (.inr z)
    · rcases a.new c q with z | z
      · exact .inr (.inr z)
      · exact .inr (.inl z)
theorem same_upd {H : Hp} {p : Addr} {o : HO} (hp : H p = none) : Same H (upd H p o) := fun b u e => by
  rw [upd_ne (ne_of_none e hp)]
  exact e
/-- a new immutable thing -/
theorem Rel.zone (r : Rel K st H Z ι) {p : Addr} {o : HO} (hp : H p = none) : Rel K st (upd H p o) (upd Z p o) ι ∧ Grow Z ι H (upd Z p o) ι (upd H p o) := by
  obtain ⟨hz, hi⟩ := r.fresh hp
  have g : Ext Z ι (upd Z p o) ι := ⟨Same.nt (same_upd hz), [], (List.append_nil ι).symm⟩
  refine ⟨⟨fun b u e => ?_, r.tb.ext (same_upd hz), r.len, r.nd, fun n ob a h1 h2 => ?_⟩, g, .of fun b u _ e => by rw [upd_ne (ne_of_none e hp)]; exact e, fun b hb => .inl hb, fun b u e => ?_⟩
  · by_cases hb : b = p
    · subst hb; rw [upd_same] at e ⊢; exact e
    · rw [upd_ne hb] at e ⊢; exact r.zin _ _ e
  · have hne : a ≠ p := fun z => hi (z ▸ List.mem_of_getElem? h2)
    refine (r.ob n ob a h1 h2).keep g (fun z => by rw [upd_ne hne]; exact z) fun u q => by rw [upd_ne hne]; exact q
  · by_cases hb : b = p
    · rw [hb]; exact .inr (.inl hp)
    · rw [upd_ne hb] at e; exact .inl (zsome e)
/-- a new object that nothing of ours names -/
theorem Rel.junk (r : Rel K st H Z ι) {p : Addr} {o : HO} (hp : H p = none) : Rel K st (upd H p o) Z ι ∧ Grow Z ι H Z ι (upd H p o) := by
  obtain ⟨hz, hi⟩ := r.fresh hp
  refine ⟨⟨fun b u e => ?_, r.tb, r.len, r.nd, fun n ob a h1 h2 => ?_⟩, Ext.refl _ _, .of fun b u _ e => by rw [upd_ne (ne_of_none e hp)]; exact e, fun b hb => .inl hb, fun b u e => .inl (zsome e)⟩
  · rw [upd_ne (ne_of_none e hz)]; exact r.zin _ _ e
  · have hne : a ≠ p := fun z => hi (z ▸ List.mem_of_getElem? h2)
    exact (r.ob n ob a h1 h2).keep (Ext.refl _ _) (fun z => z) fun u q => by rw [upd_ne hne]; exact q
/-- a new box -/
theorem Rel.box (r : Rel K st H Z ι) {p : Addr} {o : HO} {ob : Ob} (hp : H p = none) (ho : ∀ H' ι', H' p = some o → Z p = none → Ext Z ι Z ι' → ObR K Z ι' H' p ob) : Rel K (st ++ [ob]) (upd H p o) Z (ι ++ [p]) ∧ Grow Z ι H Z (ι ++ [p]) (upd H p o) := by
  obtain ⟨hz, hi⟩ := r.fresh hp
  have g : Ext Z ι Z (ι ++ [p]) := ⟨fun _ _ h _ => h, [p], rfl⟩
  refine ⟨⟨fun b u e => ?_, r.tb, by simp [r.len], ?_, fun n u a h1 h2 => ?_⟩, g, .of fun b u _ e => by rw [upd_ne (ne_of_none e hp)]; exact e, fun b hb => ?_, fun b u e => .inl (zsome e)⟩
  · rw [upd_ne (ne_of_none e hz)]; exact r.zin _ _ e
  · rw [List.nodup_append]
    refine ⟨r.nd, by simp, fun a ha b hb => ?_⟩
    have e : b = p := by simpa using hb
    subst e
    exact fun z => hi (z ▸ ha)
  · by_cases hn : n < st.length
    · rw [List.getElem?_append_left hn] at h1
      rw [List.getElem?_append_left (by rw [r.len]; exact hn)] at h2
      have hne : a ≠ p := fun z => hi (z ▸ List.mem_of_getElem? h2)
      exact (r.ob n u a h1 h2).keep g (fun z => z) fun w q => by rw [upd_ne hne]; exact q
    · have hn' : n = st.length := by
        have := (List.getElem?_eq_some_iff.mp h1).1
        simp at this
        omega
      subst hn'
      rw [List.getElem?_append_right (Nat.le_refl _)] at h1
      rw [List.getElem?_append_right (by rw [r.len]; exact Nat.le_refl _)] at h2
      simp [r.len] at h1 h2
      subst h1 h2
      exact ho _ _ upd_same hz g
  · rcases List.mem_append.mp hb with h | h
    · exact .inl h
    · have e : b = p := by simpa using h
      rw [e]; exact .inr hp
/-- a box is changed -/
theorem Rel.change (r : Rel K st H Z ι) {n : Nat} {a : Addr} {o : HO} {ob : Ob} (hn : ι[n]? = some a) (hz : Z a = none) (ho : ∀ H', H' a = some o → ObR K Z ι H' a ob) : Rel K (st.set n ob) (upd H a o) Z ι ∧ Grow Z ι H Z ι (upd H a o) := by
  refine ⟨⟨fun b u e => ?_, r.tb, by simp [r.len], r.nd, fun m u b h1 h2 => ?_⟩, Ext.refl _ _, .of fun b u hb e => by rw [upd_ne (show b ≠ a from fun z => hb (by rw [z]; exact List.mem_of_getElem? hn))]; exact e, fun b hb => .inl hb, fun b u e => .inl (zsome e)⟩
  · rw [upd_ne (ne_of_none e hz)]; exact r.zin _ _ e
  · by_cases hm : m = n
    · subst hm
      rw [hn] at h2
      cases h2
      rw [List.getElem?_set] at h1
      have hl : m < st.length := by rw [← r.len]; exact (List.getElem?_eq_some_iff.mp hn).1
      rw [if_pos rfl, if_pos hl] at h1
      cases h1
      exact ho _ upd_same
    · rw [List.getElem?_set, if_neg (Ne.symm hm)] at h1
      have hne : b ≠ a := fun z => by
        subst z
        obtain ⟨l1, e1⟩ := List.getElem?_eq_some_iff.mp h2
        obtain ⟨l2, e2⟩ := List.getElem?_eq_some_iff.mp hn
        exact hm (nodup_inj r.nd l1 l2 (e1.trans e2.symm))
      exact (r.ob m u b h1 h2).keep (Ext.refl _ _) (fun z => z) fun w q => by rw [upd_ne hne]; exact q
end

/-! ### environments, ends -/
structure EnvR (K : PySem.W.Frag) (Z : Hp) (ι : List Addr) (ρ : Env) (σ : St) : Prop where
  len : ρ.length = σ.length
  at_ : ∀ (i : Nat) (d : D), ρ[i]? = some (some d) → ∃ v, σ[i]? = some (some v) ∧ Rp K Z ι v d
theorem EnvR.mono {K : PySem.W.Frag} {Z Z' : Hp} {ι ι' : List Addr} {ρ : Env} {σ : St} (e : EnvR K Z ι ρ σ) (g : Ext Z ι Z' ι') : EnvR K Z' ι' ρ σ :=
  ⟨e.len, fun i d h => let ⟨v, h1, h2⟩ := e.at_ i d h; ⟨v, h1, h2.mono g⟩⟩
theorem EnvR.set {K : PySem.W.Frag} {Z : Hp} {ι : List Addr} {ρ : Env} {σ : St} {v : V} {d : D} (e : EnvR K Z ι ρ σ) (i : Nat) (r : Rp K Z ι v d) : EnvR K Z ι (ρ.set i (some d)) (σ.set i (some v)) := by
  refine ⟨by simp [e.len], fun j b h => ?_⟩
  rw [List.getElem?_set] at h ⊢
  by_cases hj : i = j
  · subst hj
    rw [if_pos rfl] at h ⊢
    by_cases hl : i < ρ.length
    · rw [if_pos hl] at h
      cases h
      rw [if_pos (by rw [← e.len]; exact hl)]
      exact ⟨v, rfl, r⟩
    · rw [if_neg hl] at h
      cases h
  · rw [if_neg hj] at h ⊢
    exact e.at_ j b h
def XR (K : PySem.W.Frag) (Z : Hp) (ι : List Addr) (H : Hp) (x : Xc) (c : Value) (d : Option Addr) : Prop :=
  c = .ref (He.ga K x.cls) ∧ ((x.fs = [] ∧ d = none) ∨ ∃ dd gs, d = some dd ∧ dd ∉ ι ∧ H dd = some (.xd gs) ∧ RpF K Z ι gs x.fs)
/-- what is wanted behind -/
def Post {α β : Type} (K : PySem.W.Frag) (W : WX) (σ : St) (Z : Hp) (ι : List Addr) (H : Hp) (rep : Hp → List Addr → β → α → Prop) (Q : β → Hp → Prop) : RO α → Prop
  | some (.ok a st) => ∀ b H' Z' ι', Grow Z ι H Z' ι' H' → Rel K st H' Z' ι' → rep Z' ι' b a → Q b H'
  | some (.ex x st) => ∀ c d H' Z' ι', Grow Z ι H Z' ι' H' → Rel K st H' Z' ι' → XR K Z' ι' H' x c d → W c d σ H'
  | none => False
def rdG {α β : Type} (K : PySem.W.Frag) (W : WX) (rep : Hp → List Addr → β → α → Prop) (m : Env → Sto → RO α) : St → Hp → (β → Hp → Prop) → Prop := fun σ H Q =>
  ∃ ρ st Z ι, EnvR K Z ι ρ σ ∧ Rel K st H Z ι ∧ Post K W σ Z ι H rep Q (m ρ st)
abbrev rd (K : PySem.W.Frag) (W : WX) (m : ME) : TE := rdG K W (Rp K) m
abbrev rdA (K : PySem.W.Frag) (W : WX) (m : MA) : TA := rdG K W (RpL K) m
abbrev eqB : Hp → List Addr → Bool → Bool → Prop := fun _ _ b a => b = a
abbrev rdT (K : PySem.W.Frag) (W : WX) (m : MT) : TT := rdG K W eqB m
section
variable {K : PySem.W.Frag} {W : WX} {σ : St} {H H1 : Hp} {Z Z1 : Hp} {ι ι1 : List Addr} {α β γ δ : Type} {rep : Hp → List Addr → β → α → Prop} {rep2 : Hp → List Addr → δ → γ → Prop}
theorem Post.mono {Q Q' : β → Hp → Prop} {x : RO α} (h : Post K W σ Z ι H rep Q x) (hQ : ∀ b H, Q b H → Q' b H) : Post K W σ Z ι H rep Q' x := by
  cases x with
  | none => exact h
  | some r => cases r with
    | ok a st => exact fun b H' Z' ι' g r q => hQ _ _ (h b H' Z' ι' g r q)
    | ex x st => exact h
theorem Post.grow {Q : β → Hp → Prop} {x : RO α} (h : Post K W σ Z ι H rep Q x) (g : Grow Z ι H Z1 ι1 H1) : Post K W σ Z1 ι1 H1 rep Q x := by
  cases x with
  | none => exact h
  | some r => cases r with
    | ok a st => exact fun b H' Z' ι' g' r q => h b H' Z' ι' (g.trans g') r q
    | ex x st => exact fun c d H' Z' ι' g' r q => h c d H' Z' ι' (g.trans g') r q
theorem rdG.mono {m : Env → Sto → RO α} {Q Q' : β → Hp → Prop} (h : rdG K W rep m σ H Q) (hQ : ∀ b H, Q b H → Q' b H) : rdG K W rep m σ H Q' := by
  obtain ⟨ρ, st, Z, ι, e, r, p⟩ := h
  exact ⟨ρ, st, Z, ι, e, r, p.mono hQ⟩
/-- first m, then the rest, knowing what m gave -/
theorem kont {m : Env → Sto → RO α} {f : α → Sto → RO γ} {Q : δ → Hp → Prop} {ρ : Env} {st : Sto} (e : EnvR K Z ι ρ σ) (r : Rel K st H Z ι) (p : Post K W σ Z ι H rep2 Q (bnd (m ρ st) f)) :
    rdG K W rep m σ H (fun b H1 => ∃ st1 Z1 ι1 a, Grow Z ι H Z1 ι1 H1 ∧ EnvR K Z1 ι1 ρ σ ∧ Rel K st1 H1 Z1 ι1 ∧ rep Z1 ι1 b a ∧ Post K W σ Z1 ι1 H1 rep2 Q (f a st1)) := by
  refine ⟨ρ, st, Z, ι, e, r, ?_⟩
  cases hx : m ρ st with
  | none => rw [hx] at p; exact p.elim
  | some q => cases q with
    | ok a st1 =>
      rw [hx] at p
      exact fun b H' Z' ι' g r' q' => ⟨st1, Z', ι', a, g, e.mono g.toExt, r', q', (show Post K W σ Z ι H rep2 Q (f a st1) from p).grow g⟩
    | ex x st1 => rw [hx] at p; exact p
end
/-! ### judgements -/
theorem pe_imp {X : Cx} {e : Expr} {t t' : TE} (h : PE X e t) (f : ∀ σ H Q, t' σ H Q → t σ H Q) : PE X e t' := ⟨fun pins s σ H Q I q => h.run pins s σ H Q I (f σ H Q q)⟩
theorem pt_imp {X : Cx} {e : Expr} {t t' : TT} (h : PT X e t) (f : ∀ σ H Q, t' σ H Q → t σ H Q) : PT X e t' := ⟨fun pins s σ H Q I q => h.run pins s σ H Q I (f σ H Q q)⟩
theorem pw_imp {X : Cx} {e : Expr} {t t' : TT} (h : PW X e t) (f : ∀ σ H Q, t' σ H Q → t σ H Q) : PW X e t' := ⟨fun w pins s σ H Q I q => h.run w pins s σ H Q I (f σ H Q q)⟩
theorem pa_imp {X : Cx} {es : List Expr} {t t' : TA} (h : PA X es t) (f : ∀ σ H Q, t' σ H Q → t σ H Q) : PA X es t' := ⟨fun pos pins s σ H Q I q => h.run pos pins s σ H Q I (f σ H Q q)⟩
theorem ps_imp {X : Cx} {s : Stmt} {t t' : TS} (h : PS X s t) (f : ∀ D σ H, t' D σ H → t D σ H) : PS X s t' := ⟨fun pins s σ H D I q => h.run pins s σ H D I (f D σ H q)⟩
theorem pss_imp {X : Cx} {s : List Stmt} {t t' : TS} (h : PSs X s t) (f : ∀ D σ H, t' D σ H → t D σ H) : PSs X s t' := ⟨fun pins s σ H D I q => h.run pins s σ H D I (f D σ H q)⟩
abbrev Sd (X : Cx) (W : WX) (e : Expr) (m : ME) : Prop := PE X e (rd X.K W m)
abbrev SdT (X : Cx) (W : WX) (e : Expr) (m : MT) : Prop := PT X e (rdT X.K W m)
abbrev SdW (X : Cx) (W : WX) (e : Expr) (m : MT) : Prop := PW X e (rdT X.K W m)
abbrev SdA (X : Cx) (W : WX) (es : List Expr) (m : MA) : Prop := PA X es (rdA X.K W m)
end MP


set_option Elab.async false
set_option linter.all false
set_option maxRecDepth 100000
set_option maxHeartbeats 4000000
/-! MP2: expressions -/
namespace MP
variable [Wd]
open PySem L2

def ofO {α : Type} (o : Option α) (s : Sto) : RO α := match o with
  | some d => some (.ok d s)
  | none => none
@[simp] theorem ofO_some {α : Type} (d : α) (s : Sto) : ofO (some d) s = some (.ok d s) := rfl
@[simp] theorem ofO_none {α : Type} (s : Sto) : ofO (none : Option α) s = none := rfl
/-! ### combinators -/
def mVar (i : Nat) : ME := fun ρ s => match ρ[i]? with
  | some (some d) => some (.ok d s)
  | _ => none
def mC (d : D) : ME := fun _ s => some (.ok d s)
def mOp (f : Sto → D → D → Option D) (a b : ME) : ME := fun ρ s => bnd (a ρ s) fun x s => bnd (b ρ s) fun y s => ofO (f s x y) s
def mUn (f : Sto → D → Option D) (a : ME) : ME := fun ρ s => bnd (a ρ s) fun x s => ofO (f s x) s
def mNil : MA := fun _ s => some (.ok [] s)
def mCons (a : ME) (r : MA) : MA := fun ρ s => bnd (a ρ s) fun x s => bnd (r ρ s) fun xs s => some (.ok (x :: xs) s)
/-- the items of a list or tuple -/
def items? (s : Sto) : D → Option (List D)
  | .lst l => some l
  | .tup l => some l
  | .ref n => match s[n]? with
    | some (.lst l) => some l
    | _ => none
  | _ => none
def mStar (a : ME) (r : MA) : MA := fun ρ s => bnd (a ρ s) fun x s => bnd (ofO (items? s x) s) fun ys s => bnd (r ρ s) fun xs s => some (.ok (ys ++ xs) s)
def mTup (a : MA) : ME := fun ρ s => bnd (a ρ s) fun xs s => if xs.length ≤ 16777216 then some (.ok (.tup xs) s) else none
def mLst (a : MA) : ME := fun ρ s => bnd (a ρ s) fun xs s => if xs.length ≤ 16777216 then some (.ok (.lst xs) s) else none
/-- a new list that may change -/
def mLstB (a : MA) : ME := fun ρ s => bnd (a ρ s) fun xs s => if xs.length ≤ 16777216 then some (.ok (.ref s.length) (s ++ [.lst xs])) else none
def mIfE (c : MT) (a b : ME) : ME := fun ρ s => bnd (c ρ s) fun k s => if k = true then a ρ s else b ρ s
def mTst (a : ME) : MT := fun ρ s => bnd (a ρ s) fun x s => match x with
  | .bl b => some (.ok b s)
  | _ => none
def mNot (a : MT) : MT := fun ρ s => bnd (a ρ s) fun b s => some (.ok (!b) s)
def mAnd (a b : MT) : MT := fun ρ s => bnd (a ρ s) fun k s => if k = true then b ρ s else some (.ok false s)
def mOr (a b : MT) : MT := fun ρ s => bnd (a ρ s) fun k s => if k = true then some (.ok true s) else b ρ s
def mAndV (a b : ME) : ME := fun ρ s => bnd (a ρ s) fun x s => match x with
  | .bl true => b ρ s
  | .bl false => some (.ok (.bl false) s)
  | _ => none
def mOrV (a b : ME) : ME := fun ρ s => bnd (a ρ s) fun x s => match x with
  | .bl true => some (.ok (.bl true) s)
  | .bl false => b ρ s
  | _ => none
def mNotV (a : ME) : ME := fun ρ s => bnd (a ρ s) fun x s => match x with
  | .bl b => some (.ok (.bl (!b)) s)
  | _ => none
/-- a op b op' c -/
def mChain (f f' : Sto → D → D → Option Bool) (a b c : ME) : ME := fun ρ s => bnd (a ρ s) fun x s => bnd (b ρ s) fun y s => match f s x y with
  | some true => bnd (c ρ s) fun z s => match f' s y z with
    | some k => some (.ok (.bl k) s)
    | none => none
  | some false => some (.ok (.bl false) s)
  | none => none

/-! ### soundness of operations on values -/
def OpS (K : PySem.W.Frag) (f : Sto → D → D → Option D) (r : R2) : Prop := ∀ (st : Sto) (x y d : D) (v u : V) (H Z : Hp) (ι : List Addr) (Q : VK), f st x y = some d → Rel K st H Z ι → Rp K Z ι v x → Rp K Z ι u y →
  (∀ z H' Z', Grow Z ι H Z' ι H' → Rel K st H' Z' ι → Rp K Z' ι z d → Q z H') → r v u H Q
section
variable {X : Cx} {W : WX} {a b c e : Expr} {es : List Expr} {pos : Pos} {ma mb mc : ME} {ms : MA}
theorem sd_var (i : Nat) {x : Str} (hN : X.N[i]? = some x := by rfl) (hv : Vis X.env.scope x := by first | exact Or.inl rfl | exact Or.inr (Or.inl rfl) | exact Or.inr (Or.inr rfl)) (hd : (x == ("__debug__" : Str)) = false := by decide) (hcd : (x == ("__classdict__" : Str)) = false := by decide) : Sd X W (.Name x pos) (mVar i) := by
  refine pe_imp (pe_var hN hv hd hcd) fun σ H Q ⟨ρ, st, Z, ι, e, r, p⟩ => ?_
  unfold mVar at p
  split at p
  · rename_i d hd'
    obtain ⟨v, h1, h2⟩ := e.at_ i d hd'
    exact ⟨v, h1, p v H Z ι (Grow.refl _ _ _) r h2⟩
  · exact p.elim
theorem rd_c {K : PySem.W.Frag} {v : V} {d : D} {σ : L2.St} {H : Hp} {Q : VK} (h : rd K W (mC d) σ H Q) (hr : ∀ Z ι, Rp K Z ι v d) : Q v H := by
  obtain ⟨ρ, st, Z, ι, e, r, p⟩ := h
  exact p v H Z ι (Grow.refl _ _ _) r (hr _ _)
theorem sd_int {i : Int} {j} : Sd X W (.Constant (.int i) j pos) (mC (.int i)) := pe_imp pe_int fun σ H Q h => rd_c h fun _ _ => .int i
theorem sd_str {z : Str} {j} : Sd X W (.Constant (.str z) j pos) (mC (.str z)) := pe_imp pe_str fun σ H Q h => rd_c h fun _ _ => .str z
theorem sd_bl {k : Bool} {j} : Sd X W (.Constant (.bool k) j pos) (mC (.bl k)) := pe_imp pe_bl fun σ H Q h => rd_c h fun _ _ => .bl k
theorem sd_non {j} : Sd X W (.Constant .none j pos) (mC .non) := pe_imp pe_non fun σ H Q h => rd_c h fun _ _ => .non
/-- a module's constant -/
theorem sd_glob {x : Str} {v : V} {u : Value} {d : D} (hm : X.mg x = some u) (r : RelV v u) (hr : ∀ Z ι, Rp X.K Z ι v d) (hg : Gl X x := by rfl) (hd : (x == ("__debug__" : Str)) = false := by decide) : Sd X W (.Name x pos) (mC d) := pe_imp (pe_glob hg hm r hd) fun σ H Q h => rd_c h hr
theorem rd_op {K : PySem.W.Frag} {f : Sto → D → D → Option D} {r : R2} {σ : L2.St} {H : Hp} {Q : VK} (hs : OpS K f r) (h : rd K W (mOp f ma mb) σ H Q) : tOp r (rd K W ma) (rd K W mb) σ H Q := by
  obtain ⟨ρ, st, Z, ι, e, r0, p⟩ := h
  refine rdG.mono (kont e r0 p) fun v H1 ⟨st1, Z1, ι1, x, g1, e1, r1, rx, p1⟩ => ?_
  refine rdG.mono (kont e1 r1 p1) fun u H2 ⟨st2, Z2, ι2, y, g2, e2, r2, ry, p2⟩ => ?_
  cases hf : f st2 x y with
  | none => rw [hf] at p2; exact p2.elim
  | some d =>
    rw [hf] at p2
    exact hs st2 x y d v u H2 Z2 ι2 Q hf r2 (rx.mono g2.toExt) ry fun z H' Z' g r q => p2 z H' Z' ι2 g r q
theorem sd_bin {op : Operator} {f : Sto → D → D → Option D} {r : R2} (ho : OpR X (binaryOp op) r) (hs : OpS X.K f r) (ha : Sd X W a ma) (hb : Sd X W b mb) : Sd X W (.BinOp a op b pos) (mOp f ma mb) :=
  pe_imp (pe_op ho ha hb) fun _ _ _ h => rd_op hs h
theorem sd_cmp {op : CmpOp} {f : Sto → D → D → Option D} {r : R2} (ho : OpR X (compareOp op) r) (hs : OpS X.K f r) (ha : Sd X W a ma) (hb : Sd X W b mb) (hm : behindInMarks op b = false := by first | exact nomark _ | rfl) : Sd X W (.Compare a [op] [b] pos) (mOp f ma mb) :=
  pe_imp (pe_cmpR ho ha hb hm) fun _ _ _ h => rd_op hs h
theorem sd_ix {f : Sto → D → D → Option D} {r : R2} (ho : IxR X r) (hs : OpS X.K f r) (ha : Sd X W a ma) (hb : Sd X W b mb) (hp : PlainIx b := by exact fun _ _ => rfl) : Sd X W (.Subscript a b pos) (mOp f ma mb) :=
  pe_imp (pe_ix ho ha hb hp) fun _ _ _ h => rd_op hs h
/-! tests -/
theorem rdT_tst {K : PySem.W.Frag} {σ : L2.St} {H : Hp} {Q : Bool → Hp → Prop} (h : rdT K W (mTst ma) σ H Q) : rd K W ma σ H fun x H1 => ∃ k, x = .bl k ∧ Q k H1 := by
  obtain ⟨ρ, st, Z, ι, e, r0, p⟩ := h
  refine rdG.mono (kont e r0 p) fun v H1 ⟨st1, Z1, ι1, x, g1, e1, r1, rx, p1⟩ => ?_
  cases x with
  | bl k =>
    cases rx
    exact ⟨k, rfl, p1 k H1 Z1 ι1 (Grow.refl _ _ _) r1 rfl⟩
  | _ => exact p1.elim
theorem st_val (h : Sd X W a ma) (he : ∀ whole, isTrue a X.env whole = (do let v ← whole; standAt a.pos; holding [v] (truthy v)) := by intro _; rfl) : SdT X W a (mTst ma) :=
  pt_imp (pt_val h he) fun _ _ _ h => rdT_tst h
theorem st_cmp {op : CmpOp} {f : Sto → D → D → Option D} {r : R2} (ho : OpR X (compareOp op) r) (hs : OpS X.K f r) (ha : Sd X W a ma) (hb : Sd X W b mb) (hm : behindInMarks op b = false := by first | exact nomark _ | rfl) : SdT X W (.Compare a [op] [b] pos) (mTst (mOp f ma mb)) :=
  pt_imp (pt_cmpR ho ha hb hm) fun _ _ _ h => by
    obtain ⟨ρ, st, Z, ι, e, r0, p⟩ := rdT_tst h
    exact rd_op hs ⟨ρ, st, Z, ι, e, r0, p⟩
variable {ta tb : MT} {rest : List Expr}
theorem rdT_and {K : PySem.W.Frag} {σ : L2.St} {H : Hp} {Q : Bool → Hp → Prop} (h : rdT K W (mAnd ta tb) σ H Q) : tAnd (rdT K W ta) (rdT K W tb) σ H Q := by
  obtain ⟨ρ, st, Z, ι, e, r0, p⟩ := h
  refine rdG.mono (kont e r0 p) fun k H1 ⟨st1, Z1, ι1, x, g1, e1, r1, rx, p1⟩ => ?_
  cases (show k = x from rx)
  cases k with
  | true => exact iteT ⟨ρ, st1, Z1, ι1, e1, r1, by simpa using p1⟩
  | false => exact iteF ((show Post K W σ Z1 ι1 H1 eqB Q (some (.ok false st1)) by simpa using p1) false H1 Z1 ι1 (Grow.refl _ _ _) r1 rfl)
theorem rdT_or {K : PySem.W.Frag} {σ : L2.St} {H : Hp} {Q : Bool → Hp → Prop} (h : rdT K W (mOr ta tb) σ H Q) : tOr (rdT K W ta) (rdT K W tb) σ H Q := by
  obtain ⟨ρ, st, Z, ι, e, r0, p⟩ := h
  refine rdG.mono (kont e r0 p) fun k H1 ⟨st1, Z1, ι1, x, g1, e1, r1, rx, p1⟩ => ?_
  cases (show k = x from rx)
  cases k with
  | false => exact iteF ⟨ρ, st1, Z1, ι1, e1, r1, by simpa using p1⟩
  | true => exact iteT ((show Post K W σ Z1 ι1 H1 eqB Q (some (.ok true st1)) by simpa using p1) true H1 Z1 ι1 (Grow.refl _ _ _) r1 rfl)
theorem sw_and1 (h : SdT X W a ta) : SdW X W (.BoolOp .And [a] pos) ta := pw_and1 h
theorem sw_or1 (h : SdT X W a ta) : SdW X W (.BoolOp .Or [a] pos) ta := pw_or1 h
theorem sw_and (h1 : SdT X W a ta) (h2 : SdW X W (.BoolOp .And (b :: rest) pos) tb) : SdW X W (.BoolOp .And (a :: b :: rest) pos) (mAnd ta tb) := pw_imp (pw_and h1 h2) fun _ _ _ h => rdT_and h
theorem sw_or (h1 : SdT X W a ta) (h2 : SdW X W (.BoolOp .Or (b :: rest) pos) tb) : SdW X W (.BoolOp .Or (a :: b :: rest) pos) (mOr ta tb) := pw_imp (pw_or h1 h2) fun _ _ _ h => rdT_or h
theorem st_w (h : SdW X W e ta) : SdT X W e ta := PW.pt h
theorem st_not (h : SdT X W a ta) : SdT X W (.UnaryOp .Not a pos) (mNot ta) := by
  refine pt_imp (pt_not h) fun σ H Q ⟨ρ, st, Z, ι, e, r0, p⟩ => ?_
  refine rdG.mono (kont e r0 p) fun k H1 ⟨st1, Z1, ι1, x, g1, e1, r1, rx, p1⟩ => ?_
  cases (show k = x from rx)
  exact p1 (!k) H1 Z1 ι1 (Grow.refl _ _ _) r1 rfl
/-! and, or, not as values -/
theorem sd_one {op} (h : Sd X W a ma) : Sd X W (.BoolOp op [a] pos) ma := pe_one h
theorem sd_and (h1 : Sd X W a ma) (h2 : Sd X W (.BoolOp .And (b :: rest) pos) mb) : Sd X W (.BoolOp .And (a :: b :: rest) pos) (mAndV ma mb) := by
  refine pe_imp (pe_and h1 h2) fun σ H Q ⟨ρ, st, Z, ι, e, r0, p⟩ => ?_
  refine rdG.mono (kont e r0 p) fun v H1 ⟨st1, Z1, ι1, x, g1, e1, r1, rx, p1⟩ => ?_
  cases x with
  | bl k =>
    cases rx
    cases k with
    | true => exact ⟨true, rfl, iteT ⟨ρ, st1, Z1, ι1, e1, r1, p1⟩⟩
    | false => exact ⟨false, rfl, iteF (p1 _ H1 Z1 ι1 (Grow.refl _ _ _) r1 (.bl false))⟩
  | _ => exact p1.elim
theorem sd_if {c : Expr} (hc : SdT X W c ta) (h1 : Sd X W a ma) (h2 : Sd X W b mb) : Sd X W (.IfExp c a b pos) (mIfE ta ma mb) := by
  refine pe_imp (pe_ifExp hc h1 h2) fun σ H Q ⟨ρ, st, Z, ι, e, r0, p⟩ => ?_
  refine rdG.mono (kont e r0 p) fun k H1 ⟨st1, Z1, ι1, x, g1, e1, r1, rx, p1⟩ => ?_
  cases (show k = x from rx)
  cases k with
  | true => exact iteT ⟨ρ, st1, Z1, ι1, e1, r1, by simpa using p1⟩
  | false => exact iteF ⟨ρ, st1, Z1, ι1, e1, r1, by simpa using p1⟩
/-! displays -/
theorem sa_nil : SdA X W [] mNil := pa_imp pa_nil fun σ H Q ⟨ρ, st, Z, ι, e, r0, p⟩ => p [] H Z ι (Grow.refl _ _ _) r0 .nil
theorem sa_cons (h1 : Sd X W a ma) (h2 : SdA X W es ms) (hs : starEach (a :: es) X.env = (false, eval a X.env) :: starEach es X.env := by rfl) : SdA X W (a :: es) (mCons ma ms) := by
  refine pa_imp (pa_cons h1 h2 hs) fun σ H Q ⟨ρ, st, Z, ι, e, r0, p⟩ => ?_
  refine rdG.mono (kont e r0 p) fun v H1 ⟨st1, Z1, ι1, x, g1, e1, r1, rx, p1⟩ => ?_
  refine rdG.mono (kont e1 r1 p1) fun vs H2 ⟨st2, Z2, ι2, xs, g2, e2, r2, rxs, p2⟩ => ?_
  exact p2 (v :: vs) H2 Z2 ι2 (Grow.refl _ _ _) r2 (.cons (rx.mono g2.toExt) rxs)
theorem items_sq {K : PySem.W.Frag} {st : Sto} {H Z : Hp} {ι : List Addr} {v : V} {d : D} {ds : List D} (r : Rel K st H Z ι) (h : Rp K Z ι v d) (hi : items? st d = some ds) : ∃ a xs, v = .ref a ∧ (SqT K H a xs ∨ H a = some (.lst xs)) ∧ RpL K Z ι xs ds := by
  cases h with
  | lst h q =>
    cases hi
    exact ⟨_, _, rfl, .inr (r.zin _ _ h), q⟩
  | tup h q =>
    cases hi
    exact ⟨_, _, rfl, .inl (same_sqt r.zin h), q⟩
  | @ref n a h =>
    unfold items? at hi
    dsimp only at hi
    split at hi
    · rename_i l hl
      cases hi
      obtain ⟨_, xs, h2, h3⟩ := r.ob n _ a hl h
      exact ⟨a, xs, rfl, .inr h2, h3⟩
    · cases hi
  | _ => cases hi
theorem sline : (16777216 : Nat) = sizeLine := sizeLine_eq.symm
theorem sd_tup {x1} (h : SdA X W es ms) : Sd X W (.Tuple es x1 pos) (mTup ms) := by
  refine pe_imp (pe_tup h) fun σ H Q ⟨ρ, st, Z, ι, e, r0, p⟩ => ?_
  refine rdG.mono (kont e r0 p) fun vs H1 ⟨st1, Z1, ι1, xs, g1, e1, r1, rx, p1⟩ => ?_
  by_cases hl : xs.length ≤ 16777216
  · rw [if_pos hl] at p1
    refine ⟨by rw [rx.length, ← sline]; exact hl, fun q hq => ?_⟩
    obtain ⟨r2, g2⟩ := r1.zone (o := .tup vs) hq
    exact p1 (.ref q) _ _ _ g2 r2 (.tup (SqT.of upd_same) (rx.mono g2.toExt))
  · rw [if_neg hl] at p1; exact p1.elim
theorem sd_lst (h : SdA X W es ms) : Sd X W (.List es pos) (mLst ms) := by
  refine pe_imp (pe_lst h) fun σ H Q ⟨ρ, st, Z, ι, e, r0, p⟩ => ?_
  refine rdG.mono (kont e r0 p) fun vs H1 ⟨st1, Z1, ι1, xs, g1, e1, r1, rx, p1⟩ => ?_
  by_cases hl : xs.length ≤ 16777216
  · rw [if_pos hl] at p1
    refine ⟨by rw [rx.length, ← sline]; exact hl, fun q hq => ?_⟩
    obtain ⟨r2, g2⟩ := r1.zone (o := .lst vs) hq
    exact p1 (.ref q) _ _ _ g2 r2 (.lst upd_same (rx.mono g2.toExt))
  · rw [if_neg hl] at p1; exact p1.elim
theorem box_lst {K : PySem.W.Frag} {st : Sto} {H Z : Hp} {ι : List Addr} {p : Addr} {vs : List V} {ds : List D} (r : Rel K st H Z ι) (hp : H p = none) (h : RpL K Z ι vs ds) :
    Rel K (st ++ [.lst ds]) (upd H p (.lst vs)) Z (ι ++ [p]) ∧ Grow Z ι H Z (ι ++ [p]) (upd H p (.lst vs)) ∧ Rp K Z (ι ++ [p]) (.ref p) (.ref st.length) := by
  obtain ⟨r2, g2⟩ := r.box (o := .lst vs) (ob := .lst ds) hp fun H' ι' e z g => ⟨z, vs, e, h.mono g⟩
  exact ⟨r2, g2, .ref (by rw [← r.len]; simp)⟩
theorem sd_lstB (h : SdA X W es ms) : Sd X W (.List es pos) (mLstB ms) := by
  refine pe_imp (pe_lst h) fun σ H Q ⟨ρ, st, Z, ι, e, r0, p⟩ => ?_
  refine rdG.mono (kont e r0 p) fun vs H1 ⟨st1, Z1, ι1, xs, g1, e1, r1, rx, p1⟩ => ?_
  by_cases hl : xs.length ≤ 16777216
  · rw [if_pos hl] at p1
    refine ⟨by rw [rx.length, ← sline]; exact hl, fun q hq => ?_⟩
    obtain ⟨r2, g2, h2⟩ := box_lst r1 hq rx
    exact p1 (.ref q) _ _ _ g2 r2 h2
  · rw [if_neg hl] at p1; exact p1.elim
end
end MP


set_option Elab.async false
set_option linter.all false
set_option maxRecDepth 100000
set_option maxHeartbeats 4000000
/-! MP3: statements, targets, loops, comprehensions, defs and their calls -/
namespace MP
variable [Wd]
open PySem L2

inductive F where
  | nx (ρ : Env) (s : Sto)
  | rt (d : D) (s : Sto)
  | bk (ρ : Env) (s : Sto)
  | ct (ρ : Env) (s : Sto)
  | ex (x : Xc) (ρ : Env) (s : Sto)
abbrev MS := Env → Sto → Option F
def bndS {α : Type} (x : RO α) (ρ : Env) (f : α → Sto → Option F) : Option F := match x with
  | some (.ok a s) => f a s
  | some (.ex e s) => some (.ex e ρ s)
  | none => none
@[simp] theorem bndS_ok {α : Type} (a : α) (s : Sto) (ρ : Env) (f : α → Sto → Option F) : bndS (some (.ok a s)) ρ f = f a s := rfl
@[simp] theorem bndS_ex {α : Type} (x : Xc) (s : Sto) (ρ : Env) (f : α → Sto → Option F) : bndS (some (.ex x s) : RO α) ρ f = some (.ex x ρ s) := rfl
@[simp] theorem bndS_none {α : Type} (ρ : Env) (f : α → Sto → Option F) : bndS (none : RO α) ρ f = none := rfl
def thenS (x : Option F) (f : MS) : Option F := match x with
  | some (.nx ρ s) => f ρ s
  | r => r
@[simp] theorem thenS_nx (ρ : Env) (s : Sto) (f : MS) : thenS (some (.nx ρ s)) f = f ρ s := rfl
@[simp] theorem thenS_rt (d : D) (s : Sto) (f : MS) : thenS (some (.rt d s)) f = some (.rt d s) := rfl
@[simp] theorem thenS_bk (ρ : Env) (s : Sto) (f : MS) : thenS (some (.bk ρ s)) f = some (.bk ρ s) := rfl
@[simp] theorem thenS_ct (ρ : Env) (s : Sto) (f : MS) : thenS (some (.ct ρ s)) f = some (.ct ρ s) := rfl
@[simp] theorem thenS_ex (x : Xc) (ρ : Env) (s : Sto) (f : MS) : thenS (some (.ex x ρ s)) f = some (.ex x ρ s) := rfl
@[simp] theorem thenS_none (f : MS) : thenS none f = none := rfl
def PostS (K : PySem.W.Frag) (W : WX) (Z : Hp) (ι : List Addr) (H : Hp) (E : Ends) : Option F → Prop
  | some (.nx ρ st) => ∀ σ' H' Z' ι', Grow Z ι H Z' ι' H' → Rel K st H' Z' ι' → EnvR K Z' ι' ρ σ' → E.nx σ' H'
  | some (.rt d st) => ∀ v H' Z' ι', Grow Z ι H Z' ι' H' → Rel K st H' Z' ι' → Rp K Z' ι' v d → E.rt v H'
  | some (.bk ρ st) => ∀ σ' H' Z' ι', Grow Z ι H Z' ι' H' → Rel K st H' Z' ι' → EnvR K Z' ι' ρ σ' → E.bk σ' H'
  | some (.ct ρ st) => ∀ σ' H' Z' ι', Grow Z ι H Z' ι' H' → Rel K st H' Z' ι' → EnvR K Z' ι' ρ σ' → E.ct σ' H'
  | some (.ex x ρ st) => ∀ c d σ' H' Z' ι', Grow Z ι H Z' ι' H' → Rel K st H' Z' ι' → EnvR K Z' ι' ρ σ' → XR K Z' ι' H' x c d → W c d σ' H'
  | none => False
def rdS (K : PySem.W.Frag) (W : WX) (m : MS) : TS := fun E σ H => ∃ ρ st Z ι, EnvR K Z ι ρ σ ∧ Rel K st H Z ι ∧ PostS K W Z ι H E (m ρ st)
abbrev SdS (X : Cx) (W : WX) (s : Stmt) (m : MS) : Prop := PS X s (rdS X.K W m)
abbrev SdB (X : Cx) (W : WX) (s : List Stmt) (m : MS) : Prop := PSs X s (rdS X.K W m)
section
variable {K : PySem.W.Frag} {W : WX} {σ : L2.St} {H H1 Z Z1 : Hp} {ι ι1 : List Addr} {E E' : Ends} {α β : Type} {rep : Hp → List Addr → β → α → Prop}
theorem PostS.grow {x : Option F} (h : PostS K W Z ι H E x) (g : Grow Z ι H Z1 ι1 H1) : PostS K W Z1 ι1 H1 E x := by
  cases x with
  | none => exact h
  | some r => cases r with
    | nx ρ st => exact fun σ' H' Z' ι' g' r e => h σ' H' Z' ι' (g.trans g') r e
    | rt d st => exact fun v H' Z' ι' g' r e => h v H' Z' ι' (g.trans g') r e
    | bk ρ st => exact fun σ' H' Z' ι' g' r e => h σ' H' Z' ι' (g.trans g') r e
    | ct ρ st => exact fun σ' H' Z' ι' g' r e => h σ' H' Z' ι' (g.trans g') r e
    | ex x ρ st => exact fun c d σ' H' Z' ι' g' r e q => h c d σ' H' Z' ι' (g.trans g') r e q
theorem skont {m : Env → Sto → RO α} {f : α → Sto → Option F} {ρ : Env} {st : Sto} (e : EnvR K Z ι ρ σ) (r : Rel K st H Z ι) (p : PostS K W Z ι H E (bndS (m ρ st) ρ f)) :
    rdG K W rep m σ H (fun b H1 => ∃ st1 Z1 ι1 a, Grow Z ι H Z1 ι1 H1 ∧ EnvR K Z1 ι1 ρ σ ∧ Rel K st1 H1 Z1 ι1 ∧ rep Z1 ι1 b a ∧ PostS K W Z1 ι1 H1 E (f a st1)) := by
  refine ⟨ρ, st, Z, ι, e, r, ?_⟩
  cases hx : m ρ st with
  | none => rw [hx] at p; exact p.elim
  | some q => cases q with
    | ok a st1 =>
      rw [hx] at p
      exact fun b H' Z' ι' g r' q' => ⟨st1, Z', ι', a, g, e.mono g.toExt, r', q', (show PostS K W Z ι H E (f a st1) from p).grow g⟩
    | ex x st1 =>
      rw [hx] at p
      exact fun c d H' Z' ι' g r' q' => p c d σ H' Z' ι' g r' (e.mono g.toExt) q'
theorem PostS.nx_ {ρ : Env} {st : Sto} (p : PostS K W Z ι H E (some (.nx ρ st))) (e : EnvR K Z ι ρ σ) (r : Rel K st H Z ι) : E.nx σ H := p σ H Z ι (Grow.refl _ _ _) r e
end
/-! ### combinators -/
def mSeq (a b : MS) : MS := fun ρ s => thenS (a ρ s) b
def mNext : MS := fun ρ s => some (.nx ρ s)
def mBrk : MS := fun ρ s => some (.bk ρ s)
def mCnt : MS := fun ρ s => some (.ct ρ s)
def mExpr (a : ME) : MS := fun ρ s => bndS (a ρ s) ρ fun _ s => some (.nx ρ s)
def mRet (a : ME) : MS := fun ρ s => bndS (a ρ s) ρ fun d s => some (.rt d s)
def mRetN : MS := fun ρ s => some (.rt .non s)
def mIf (c : MT) (a b : MS) : MS := fun ρ s => bndS (c ρ s) ρ fun k s => if k = true then a ρ s else b ρ s
def mSet (i : Nat) (a : ME) : MS := fun ρ s => bndS (a ρ s) ρ fun d s => some (.nx (ρ.set i (some d)) s)
/-- a, b = x, y -/
def mPar (i j : Nat) (a : MA) : MS := fun ρ s => bndS (a ρ s) ρ fun ds s => match ds with
  | [x, y] => some (.nx ((ρ.set i (some x)).set j (some y)) s)
  | _ => none
def mPar3 (i j k : Nat) (a : MA) : MS := fun ρ s => bndS (a ρ s) ρ fun ds s => match ds with
  | [x, y, z] => some (.nx (((ρ.set i (some x)).set j (some y)).set k (some z)) s)
  | _ => none
section
variable {X : Cx} {W : WX} {a b e : Expr} {es : List Expr} {pos : Pos} {ma mb : ME} {ms : MA} {st : Stmt} {sts : List Stmt} {m m' : MS}
theorem sb_nil : SdB X W [] mNext := pss_imp pss_nil fun E σ H ⟨ρ, st, Z, ι, e, r, p⟩ => PostS.nx_ p e r
theorem sb_one (h : SdS X W st m) : SdB X W [st] m := pss_one h
theorem sb_cons (h1 : SdS X W st m) (h2 : SdB X W sts m') : SdB X W (st :: sts) (mSeq m m') := by
  refine pss_imp (pss_cons h1 h2) fun E σ H ⟨ρ, st, Z, ι, e, r, p⟩ => ?_
  refine ⟨ρ, st, Z, ι, e, r, ?_⟩
  unfold mSeq at p
  cases hx : m ρ st with
  | none => rw [hx] at p; exact p.elim
  | some q => rw [hx] at p; cases q with
    | nx ρ1 st1 => exact fun σ' H' Z' ι' g r' e' => ⟨ρ1, st1, Z', ι', e', r', (show PostS X.K W Z ι H E (m' ρ1 st1) from p).grow g⟩
    | _ => exact p
theorem ss_expr (h : Sd X W e ma) (hs : swapsWith e none pos.line X.env = pure false := by rfl) : SdS X W (.Expr e pos) (mExpr ma) := by
  refine ps_imp (ps_expr h hs) fun E σ H ⟨ρ, st, Z, ι, e, r, p⟩ => ?_
  exact rdG.mono (skont e r p) fun v H1 ⟨st1, Z1, ι1, x, g1, e1, r1, rx, p1⟩ => PostS.nx_ p1 e1 r1
theorem ss_ret (h : Sd X W e ma) : SdS X W (.Return (some e) pos) (mRet ma) := by
  refine ps_imp (ps_ret h) fun E σ H ⟨ρ, st, Z, ι, e, r, p⟩ => ?_
  exact rdG.mono (skont e r p) fun v H1 ⟨st1, Z1, ι1, x, g1, e1, r1, rx, p1⟩ => p1 v H1 Z1 ι1 (Grow.refl _ _ _) r1 rx
theorem ss_if {c : Expr} {s1 s2 : List Stmt} {tc : MT} (hc : SdT X W c tc) (h1 : SdB X W s1 m) (h2 : SdB X W s2 m') : SdS X W (.If c s1 s2 pos) (mIf tc m m') := by
  refine ps_imp (ps_if hc h1 h2) fun E σ H ⟨ρ, st, Z, ι, e, r, p⟩ => ?_
  refine rdG.mono (skont e r p) fun k H1 ⟨st1, Z1, ι1, x, g1, e1, r1, rx, p1⟩ => ?_
  cases (show k = x from rx)
  cases k with
  | true => exact iteT ⟨ρ, st1, Z1, ι1, e1, r1, by simpa using p1⟩
  | false => exact iteF ⟨ρ, st1, Z1, ι1, e1, r1, by simpa using p1⟩
theorem ss_set {i : Nat} {x : Str} {p' : Pos} (hN : X.N.Nodup) (h : Sd X W e ma) (hi : X.N[i]? = some x := by rfl) (hx : Loc X.env.scope x := by first | exact Or.inl rfl | exact Or.inr rfl) (hs : swapsWith e (some (.Name x p')) pos.line X.env = pure false := by rfl)
    (hf : X.fn x = true ∨ X.env.scope.names.lookup x = some .local := by first | exact .inl rfl | exact .inr rfl) : SdS X W (.Assign [.Name x p'] e pos) (mSet i ma) := by
  refine ps_imp (ps_set hN hi hx h hs hf) fun E σ H ⟨ρ, st, Z, ι, e, r, p⟩ => ?_
  exact rdG.mono (skont e r p) fun v H1 ⟨st1, Z1, ι1, x, g1, e1, r1, rx, p1⟩ => PostS.nx_ p1 (e1.set i rx) r1
theorem ss_par {i j : Nat} {x y : Str} {px py pt : Pos} {kt k2 pt2} (hN : X.N.Nodup) (ha : SdA X W [a, b] ms) (hc : X.calm = true := by rfl) (hi : X.N[i]? = some x := by rfl) (hj : X.N[j]? = some y := by rfl) (hij : i ≠ j := by decide)
    (hx : X.env.scope.names.lookup x = some .local := by rfl) (hy : X.env.scope.names.lookup y = some .local := by rfl)
    (hw : swappedStores [.Tuple [.Name x px, .Name y py] kt pt] (.Tuple [a, b] k2 pt2) X.env = pure (some [x, y]) := by rfl)
    (hs : swapsWithSole [.Tuple [.Name x px, .Name y py] kt pt] (.Tuple [a, b] k2 pt2) pos.line X.env = pure false := by rfl) :
    SdS X W (.Assign [.Tuple [.Name x px, .Name y py] kt pt] (.Tuple [a, b] k2 pt2) pos) (mPar i j ms) := by
  refine ps_imp (ps_par hc hN hi hj hij hx hy ha hw hs) fun E σ H ⟨ρ, st, Z, ι, e, r, p⟩ => ?_
  refine rdG.mono (skont e r p) fun vs H1 ⟨st1, Z1, ι1, xs, g1, e1, r1, rx, p1⟩ => ?_
  cases rx with
  | nil => exact p1.elim
  | cons h1 q1 => cases q1 with
    | nil => exact p1.elim
    | cons h2 q2 => cases q2 with
      | nil => exact ⟨_, _, rfl, PostS.nx_ p1 ((e1.set i h1).set j h2) r1⟩
      | cons _ _ => exact p1.elim
theorem ss_par3 {i j l : Nat} {x y z : Str} {c : Expr} {px py pz pt : Pos} {kt k2 pt2} (hN : X.N.Nodup) (ha : SdA X W [a, b, c] ms) (hc : X.calm = true := by rfl) (hi : X.N[i]? = some x := by rfl) (hj : X.N[j]? = some y := by rfl) (hl : X.N[l]? = some z := by rfl)
    (hij : i ≠ j := by decide) (hil : i ≠ l := by decide) (hjl : j ≠ l := by decide)
    (hx : X.env.scope.names.lookup x = some .local := by rfl) (hy : X.env.scope.names.lookup y = some .local := by rfl) (hz : X.env.scope.names.lookup z = some .local := by rfl)
    (hw : swappedStores [.Tuple [.Name x px, .Name y py, .Name z pz] kt pt] (.Tuple [a, b, c] k2 pt2) X.env = pure (some [x, y, z]) := by rfl)
    (hs : swapsWithSole [.Tuple [.Name x px, .Name y py, .Name z pz] kt pt] (.Tuple [a, b, c] k2 pt2) pos.line X.env = pure false := by rfl) :
    SdS X W (.Assign [.Tuple [.Name x px, .Name y py, .Name z pz] kt pt] (.Tuple [a, b, c] k2 pt2) pos) (mPar3 i j l ms) := by
  refine ps_imp (ps_par3 hc hN hi hj hl hij hil hjl hx hy hz ha hw hs) fun E σ H ⟨ρ, st, Z, ι, e, r, p⟩ => ?_
  refine rdG.mono (skont e r p) fun vs H1 ⟨st1, Z1, ι1, xs, g1, e1, r1, rx, p1⟩ => ?_
  cases rx with
  | nil => exact p1.elim
  | cons h1 q1 => cases q1 with
    | nil => exact p1.elim
    | cons h2 q2 => cases q2 with
      | nil => exact p1.elim
      | cons h3 q3 => cases q3 with
        | nil => exact ⟨_, _, _, rfl, PostS.nx_ p1 (((e1.set i h1).set j h2).set l h3) r1⟩
        | cons _ _ => exact p1.elim
end
/-! ### targets -/
abbrev MG := D → Env → Sto → RO Env
def rdTG (K : PySem.W.Frag) (W : WX) (m : MG) : TG := fun v σ H Q => ∃ ρ st Z ι d, EnvR K Z ι ρ σ ∧ Rel K st H Z ι ∧ Rp K Z ι v d ∧ Post K W σ Z ι H (fun Z ι σ' ρ' => EnvR K Z ι ρ' σ') (fun σ' H' => Q σ' H') (m d ρ st)
abbrev SdG (X : Cx) (W : WX) (tg : Expr) (m : MG) : Prop := PG X tg (rdTG X.K W m)
abbrev MGs := List D → Env → Sto → RO Env
def rdTGs (K : PySem.W.Frag) (W : WX) (m : MGs) : TGs := fun vs σ H Q => ∃ ρ st Z ι ds, EnvR K Z ι ρ σ ∧ Rel K st H Z ι ∧ RpL K Z ι vs ds ∧ Post K W σ Z ι H (fun Z ι σ' ρ' => EnvR K Z ι ρ' σ') (fun σ' H' => Q σ' H') (m ds ρ st)
abbrev SdGs (X : Cx) (W : WX) (tg : List Expr) (m : MGs) : Prop := PGs X tg (rdTGs X.K W m)
theorem pg_imp {X : Cx} {e : Expr} {t t' : TG} (h : PG X e t) (f : ∀ v σ H Q, t' v σ H Q → t v σ H Q) : PG X e t' := ⟨fun pins s σ H v u Q I r q => h.run pins s σ H v u Q I r (f v σ H Q q)⟩
theorem pgs_imp {X : Cx} {e : List Expr} {t t' : TGs} (h : PGs X e t) (f : ∀ v σ H Q, t' v σ H Q → t v σ H Q) : PGs X e t' := ⟨fun pins s σ H v u Q I r q => h.run pins s σ H v u Q I r (f v σ H Q q)⟩
def gmName (i : Nat) : MG := fun d ρ s => some (.ok (ρ.set i (some d)) s)
def gmNil : MGs := fun ds ρ s => match ds with
  | [] => some (.ok ρ s)
  | _ => none
/-- the first target stored, then the rest -/
def gmCons (g : MG) (r : MGs) : MGs := fun ds ρ s => match ds with
  | d :: ds => bnd (g d ρ s) fun ρ s => r ds ρ s
  | [] => none
def gmTup (r : MGs) : MG := fun d ρ s => match d with
  | .tup ds => r ds ρ s
  | _ => none
/-- target = value -/
def mAsg (a : ME) (g : MG) : MS := fun ρ s => bndS (a ρ s) ρ fun d s => bndS (g d ρ s) ρ fun ρ s => some (.nx ρ s)
section
variable {X : Cx} {W : WX} {e tg : Expr} {es : List Expr} {pos : Pos} {ma : ME} {g : MG} {gs : MGs}
theorem sg_name {i : Nat} {x : Str} (hN : X.N.Nodup) (hi : X.N[i]? = some x := by rfl) (hx : Loc X.env.scope x := by first | exact Or.inl rfl | exact Or.inr rfl) (hf : X.fn x = true ∨ X.env.scope.names.lookup x = some .local := by first | exact .inl rfl | exact .inr rfl) : SdG X W (.Name x pos) (gmName i) :=
  pg_imp (pg_name hN hi hx hf) fun v σ H Q ⟨ρ, st, Z, ι, d, e, r, h, p⟩ => p _ H Z ι (Grow.refl _ _ _) r (e.set i h)
theorem sgs_nil : SdGs X W [] gmNil := pgs_imp pgs_nil fun vs σ H Q ⟨ρ, st, Z, ι, ds, e, r, h, p⟩ => by
  cases h with
  | nil => exact ⟨rfl, p σ H Z ι (Grow.refl _ _ _) r e⟩
  | cons _ _ => exact p.elim
/-- only names among the targets: the slots are the def's own -/
theorem sgs_cons (h1 : SdG X W e g) (h2 : SdGs X W es gs) (hs : (assignEach (e :: es) X.env).map (·.2) = assign e X.env :: (assignEach es X.env).map (·.2) := by rfl) (hw : ∀ d ρ s x s', g d ρ s ≠ some (.ex x s') := by intro _ _ _ _ _ h; cases h)
    (hw2 : ∀ d ρ s x s', gs d ρ s ≠ some (.ex x s')) : SdGs X W (e :: es) (gmCons g gs) := pgs_imp (pgs_cons h1 h2 hs) fun vs σ H Q ⟨ρ, st, Z, ι, ds, e, r, h, p⟩ => by
  cases h with
  | nil => exact p.elim
  | @cons v vs d ds h q =>
    refine ⟨v, vs, rfl, ρ, st, Z, ι, d, e, r, h, ?_⟩
    have p' : Post X.K W σ Z ι H (fun Z ι σ' ρ' => EnvR X.K Z ι ρ' σ') (fun σ' H' => Q σ' H') (bnd (g d ρ st) fun ρ s => gs ds ρ s) := p
    cases hx : g d ρ st with
    | none => rw [hx] at p'; exact p'.elim
    | some q' => cases q' with
      | ok ρ1 st1 =>
        rw [hx] at p'
        intro σ1 H1 Z1 ι1 g1 r1 e1
        refine ⟨ρ1, st1, Z1, ι1, ds, e1, r1, q.mono g1.toExt, ?_⟩
        have p2 : Post X.K W σ Z ι H (fun Z ι σ' ρ' => EnvR X.K Z ι ρ' σ') (fun σ' H' => Q σ' H') (gs ds ρ1 st1) := p'
        cases hy : gs ds ρ1 st1 with
        | none => rw [hy] at p2; exact p2.elim
        | some q2 => cases q2 with
          | ok ρ2 st2 => rw [hy] at p2; exact fun σ2 H2 Z2 ι2 g2 r2 e2 => p2 σ2 H2 Z2 ι2 (g1.trans g2) r2 e2
          | ex x s' => exact absurd hy (hw2 _ _ _ _ _)
      | ex x s' => exact absurd hx (hw _ _ _ _ _)
theorem sg_tup {k : Nat} {n : Nat} (hc : X.calm = true) (h : SdGs X W es gs) (hl : ∀ ds ρ s r, gs ds ρ s = some r → ds.length = n) (hn : (assignEach es X.env).length = n := by rfl) (hst : (assignEach es X.env).findIdx? (·.1) = none := by rfl) :
    SdG X W (.Tuple es k pos) (gmTup gs) := pg_imp (pg_tup hc h hn hst) fun v σ H Q ⟨ρ, st, Z, ι, d, e, r, h, p⟩ => by
  cases h with
  | @tup a xs ds hq hr =>
    have p' : Post X.K W σ Z ι H (fun Z ι σ' ρ' => EnvR X.K Z ι ρ' σ') (fun σ' H' => Q σ' H') (gs ds ρ st) := p
    refine ⟨a, xs, rfl, same_sqt r.zin hq, ?_, ρ, st, Z, ι, ds, e, r, hr, p'⟩
    cases hy : gs ds ρ st with
    | none => rw [hy] at p'; exact p'.elim
    | some q => rw [hr.length]; exact hl _ _ _ _ hy
  | _ => exact p.elim
theorem ss_asg (he : Sd X W e ma) (hg : SdG X W tg g) (hw : ∀ d ρ s x s', g d ρ s ≠ some (.ex x s')) (hs : swapsWithSole [tg] e pos.line X.env = pure false := by rfl) (hv : swappedStores [tg] e X.env = pure none := by rfl) (h1 : (assignEach [tg] X.env).map (·.2) = [assign tg X.env] := by rfl) :
    SdS X W (.Assign [tg] e pos) (mAsg ma g) := by
  refine ps_imp (ps_asg he hg hs hv h1) fun E σ H ⟨ρ, st, Z, ι, e, r, p⟩ => ?_
  refine rdG.mono (skont e r p) fun v H1 ⟨st1, Z1, ι1, d, g1, e1, r1, rx, p1⟩ => ?_
  refine ⟨ρ, st1, Z1, ι1, d, e1, r1, rx, ?_⟩
  cases hx : g d ρ st1 with
  | none => rw [hx] at p1; exact p1.elim
  | some q => cases q with
    | ok ρ2 st2 =>
      rw [hx] at p1
      exact fun σ' H' Z' ι' g r e => p1 σ' H' Z' ι' g r e
    | ex x s' => exact absurd hx (hw _ _ _ _ _)
theorem gmName_noex {i : Nat} : ∀ d ρ s x s', gmName i d ρ s ≠ some (.ex x s') := fun _ _ _ _ _ h => by cases h
theorem gmNil_noex : ∀ d ρ s x s', gmNil d ρ s ≠ some (.ex x s') := fun d _ _ _ _ h => by cases d <;> cases h
theorem gmCons_noex {g : MG} {gs : MGs} (h1 : ∀ d ρ s x s', g d ρ s ≠ some (.ex x s')) (h2 : ∀ d ρ s x s', gs d ρ s ≠ some (.ex x s')) : ∀ d ρ s x s', gmCons g gs d ρ s ≠ some (.ex x s') := fun d ρ s x s' h => by
  cases d with
  | nil => cases h
  | cons d ds =>
    have h' : bnd (g d ρ s) (fun ρ s => gs ds ρ s) = some (.ex x s') := h
    cases hx : g d ρ s with
    | none => rw [hx] at h'; cases h'
    | some q => cases q with
      | ok ρ1 st1 => rw [hx] at h'; exact h2 _ _ _ _ _ h'
      | ex y s2 => exact h1 _ _ _ _ _ hx
theorem gmTup_noex {gs : MGs} (h2 : ∀ d ρ s x s', gs d ρ s ≠ some (.ex x s')) : ∀ d ρ s x s', gmTup gs d ρ s ≠ some (.ex x s') := fun d ρ s x s' h => by
  cases d with
  | tup ds => exact h2 _ _ _ _ _ h
  | _ => cases h
theorem gmNil_len : ∀ ds ρ s r, gmNil ds ρ s = some r → ds.length = 0 := fun ds ρ s r h => by cases ds with
  | nil => rfl
  | cons _ _ => cases h
theorem gmCons_len {g : MG} {gs : MGs} {n : Nat} (h2 : ∀ ds ρ s r, gs ds ρ s = some r → ds.length = n) (h1 : ∀ d ρ s x s', g d ρ s ≠ some (.ex x s')) : ∀ ds ρ s r, gmCons g gs ds ρ s = some r → ds.length = n + 1 := fun ds ρ s r h => by
  cases ds with
  | nil => cases h
  | cons d ds =>
    have h' : bnd (g d ρ s) (fun ρ s => gs ds ρ s) = some r := h
    cases hx : g d ρ s with
    | none => rw [hx] at h'; cases h'
    | some q => cases q with
      | ok ρ1 st1 => rw [hx] at h'; rw [List.length_cons, h2 _ _ _ _ h']
      | ex y s2 => exact absurd hx (h1 _ _ _ _ _)
end
end MP


set_option Elab.async false
set_option linter.all false
set_option maxRecDepth 100000
set_option maxHeartbeats 4000000
/-! MP4: loops, comprehensions, defs and calls -/
namespace MP
variable [Wd]
open PySem L2

/-! ### what is walked -/
/-- the walk J gives the items ds, whatever the state, as long as it goes on from here -/
def WalkM (K : PySem.W.Frag) (Z : Hp) (ι : List Addr) (J : It) (src : List D × (Sto → Prop)) : Prop := ∀ (i : Nat) (st : Sto) (H Z1 : Hp) (ι1 : List Addr), Ext Z ι Z1 ι1 → Rel K st H Z1 ι1 → src.2 st →
  (∀ d, src.1[i]? = some d → J.go i H ∧ ∀ x H', J.yld i H x H' → ∃ Z2, Grow Z1 ι1 H Z2 ι1 H' ∧ Rel K st H' Z2 ι1 ∧ Rp K Z2 ι1 x d) ∧ (i = src.1.length → J.stop i H)
abbrev MI := Env → Sto → RO (List D × (Sto → Prop))
abbrev rdI (K : PySem.W.Frag) (W : WX) (m : MI) : TI := rdG K W (WalkM K) m
abbrev SdI (X : Cx) (W : WX) (tg iter : Expr) (m : MI) : Prop := PI X tg iter (rdI X.K W m)
theorem pi_imp {X : Cx} {tg e : Expr} {t t' : TI} (h : PI X tg e t) (f : ∀ σ H Q, t' σ H Q → t σ H Q) : PI X tg e t' := ⟨fun pins s σ H Q I q => h.run pins s σ H Q I (f σ H Q q)⟩
theorem WalkM.mono {K : PySem.W.Frag} {Z Z' : Hp} {ι ι' : List Addr} {J : It} {src : List D × (Sto → Prop)} (h : WalkM K Z ι J src) (g : Ext Z ι Z' ι') : WalkM K Z' ι' J src := fun i st H Z1 ι1 g' r => h i st H Z1 ι1 (g.trans g') r
/-! ### for -/
open Classical in
/-- a thing that is walked must stand as it stood -/
noncomputable def still {α : Type} (G : Sto → Prop) (s : Sto) (x : Option α) : Option α := if G s then x else none
theorem still_yes {α : Type} {G : Sto → Prop} {s : Sto} (h : G s) (x : Option α) : still G s x = x := if_pos h
theorem still_inv {α : Type} {G : Sto → Prop} {s : Sto} {x : Option α} {a : α} (h : still G s x = some a) : G s ∧ x = some a := by
  unfold still at h
  split at h
  · rename_i hg; exact ⟨hg, h⟩
  · cases h
abbrev any_ : Sto → Prop := fun _ => True
@[simp] theorem still_any {α : Type} (s : Sto) (x : Option α) : still any_ s x = x := still_yes trivial x
noncomputable def forL (G : Sto → Prop) (g : MG) (body : MS) : List D → MS
  | [], ρ, s => still G s (some (.nx ρ s))
  | d :: ds, ρ, s => still G s (bndS (g d ρ s) ρ fun ρ1 s1 => match body ρ1 s1 with
    | some (.nx ρ2 s2) => forL G g body ds ρ2 s2
    | some (.ct ρ2 s2) => forL G g body ds ρ2 s2
    | some (.bk ρ2 s2) => some (.nx ρ2 s2)
    | r => r)
noncomputable def mFor (mi : MI) (g : MG) (body : MS) : MS := fun ρ s => bndS (mi ρ s) ρ fun src s => forL src.2 g body src.1 ρ s
theorem PostS.still {K : PySem.W.Frag} {W : WX} {Z H : Hp} {ι : List Addr} {E : Ends} {G : Sto → Prop} {s : Sto} {x : Option F} (p : PostS K W Z ι H E (still G s x)) : G s ∧ PostS K W Z ι H E x := by
  unfold MP.still at p
  split at p
  · rename_i h; exact ⟨h, p⟩
  · exact p.elim
theorem forL_post {K : PySem.W.Frag} {W : WX} {E : Ends} {g : MG} {body : MS} {J : It} {Z0 : Hp} {ι0 : List Addr} {all : List D} {G : Sto → Prop} (hw : WalkM K Z0 ι0 J (all, G)) (hx : ∀ d ρ s x s', g d ρ s ≠ some (.ex x s')) {σ : L2.St} {H : Hp}
    (h0 : ∃ ρ st Z ι, Ext Z0 ι0 Z ι ∧ EnvR K Z ι ρ σ ∧ Rel K st H Z ι ∧ PostS K W Z ι H E (forL G g body all ρ st)) :
    ∃ Wt : Nat → Nat → L2.St → Hp → Prop, (∃ m, Wt 0 m σ H) ∧ ∀ i m σ H, Wt i m σ H → (J.stop i H ∧ E.nx σ H) ∨ (J.go i H ∧ ∃ N : L2.St → Hp → Prop, (∀ σ' H', N σ' H' → ∃ m', m' < m ∧ Wt (i + 1) m' σ' H') ∧ ∀ x H', J.yld i H x H' → rdTG K W g x σ H' fun σ2 H2 => rdS K W body { E with nx := N, ct := N, bk := E.nx } σ2 H2) := by
  refine ⟨fun i m σ H => m = all.length - i ∧ i ≤ all.length ∧ ∃ ρ st Z ι, Ext Z0 ι0 Z ι ∧ EnvR K Z ι ρ σ ∧ Rel K st H Z ι ∧ PostS K W Z ι H E (forL G g body (all.drop i) ρ st), ⟨all.length, rfl, Nat.zero_le _, by simpa using h0⟩, ?_⟩
  rintro i m σ H ⟨rfl, hi, ρ, st, Z, ι, g0, e, r, p⟩
  by_cases hlt : i < all.length
  · have hd : all[i]? = some all[i] := List.getElem?_eq_getElem hlt
    have hdrop : all.drop i = all[i] :: all.drop (i + 1) := List.drop_eq_getElem_cons hlt
    rw [hdrop] at p
    obtain ⟨hG, p⟩ := PostS.still p
    obtain ⟨go, yl⟩ := (hw i st H Z ι g0 r hG).1 _ hd
    refine .inr ⟨go, fun σ' H' => i + 1 ≤ all.length ∧ ∃ ρ st Z ι, Ext Z0 ι0 Z ι ∧ EnvR K Z ι ρ σ' ∧ Rel K st H' Z ι ∧ PostS K W Z ι H' E (forL G g body (all.drop (i + 1)) ρ st), fun σ' H' hN => ⟨all.length - (i + 1), by omega, rfl, hN.1, hN.2⟩, fun x H' y => ?_⟩
    obtain ⟨Z2, g2, r2, rx⟩ := yl x H' y
    have p := p.grow g2
    refine ⟨ρ, st, Z2, ι, all[i], e.mono g2.toExt, r2, rx, ?_⟩
    cases hg : g all[i] ρ st with
    | none => rw [hg] at p; exact p.elim
    | some q => cases q with
      | ex x s' => exact absurd hg (hx _ _ _ _ _)
      | ok ρ1 st1 =>
        rw [hg] at p
        intro σ3 H3 Z3 ι3 g3 r3 e3
        refine ⟨ρ1, st1, Z3, ι3, e3, r3, ?_⟩
        have p := p.grow g3
        dsimp only [bndS] at p
        cases hb : body ρ1 st1 with
        | none => rw [hb] at p; exact p.elim
        | some f =>
          rw [hb] at p
          cases f with
          | nx ρ2 st2 => exact fun σ4 H4 Z4 ι4 g4 r4 e4 => ⟨hlt, ρ2, st2, Z4, ι4, ((g0.trans g2.toExt).trans g3.toExt).trans g4.toExt, e4, r4, p.grow g4⟩
          | ct ρ2 st2 => exact fun σ4 H4 Z4 ι4 g4 r4 e4 => ⟨hlt, ρ2, st2, Z4, ι4, ((g0.trans g2.toExt).trans g3.toExt).trans g4.toExt, e4, r4, p.grow g4⟩
          | bk ρ2 st2 => exact p
          | rt d st2 => exact p
          | ex x ρ2 st2 => exact p
  · have he : i = all.length := by omega
    subst he
    rw [List.drop_length] at p
    obtain ⟨hG, p⟩ := PostS.still p
    exact .inl ⟨(hw _ st H Z ι g0 r hG).2 rfl, PostS.nx_ p e r⟩
section
variable {X : Cx} {W : WX} {tg iter : Expr} {body : List Stmt} {pos : Pos} {mi : MI} {g : MG} {mb : MS}
theorem ss_for (hp : PassesOwn (model X.prog X.w) X.A X.env X.xe) (hc : X.calm = true) (hi : SdI X W tg iter mi) (hg : SdG X W tg g) (hb : SdB X W body mb) (hx : ∀ d ρ s x s', g d ρ s ≠ some (.ex x s')) (hs : ∀ x, foldedSetIterable iter X.env x = pure x := by intro _; rfl) :
    SdS X W (.For tg iter body [] pos) (mFor mi g mb) := by
  refine ps_imp (ps_for hp hc hi hg hb hs) fun E σ H ⟨ρ, st, Z, ι, e, r, p⟩ => ?_
  refine rdG.mono (skont e r p) fun J H1 ⟨st1, Z1, ι1, ds, g1, e1, r1, hw, p1⟩ => ?_
  exact forL_post hw hx ⟨ρ, st1, Z1, ι1, Ext.refl _ _, e1, r1, p1⟩
end
/-! ### while -/
/-! ### defs -/
def fnM (n : Nat) (body : MS) : FM := fun ds s => if ds.length ≤ n then match body (ds.map some ++ List.replicate (n - ds.length) none) s with
    | some (.nx _ s) => some (.ok .non s)
    | some (.rt d s) => some (.ok d s)
    | some (.ex x _ s) => some (.ex x s)
    | _ => none
  else none
/-- what a def promises: n arguments -/
def spM (K : PySem.W.Frag) (n : Nat) (f : FM) : Sp := fun vs H Q E => vs.length = n ∧ ∃ ds st Z ι, RpL K Z ι vs ds ∧ Rel K st H Z ι ∧ Post K (fun c d _ H' => E c d H') [] Z ι H (Rp K) Q (f ds st)
theorem envR_start {K : PySem.W.Frag} {Z : Hp} {ι : List Addr} {vs : List V} {ds : List D} (k : Nat) (h : RpL K Z ι vs ds) : EnvR K Z ι (ds.map some ++ List.replicate k none) (vs.map some ++ List.replicate k none) := by
  refine ⟨by simp [h.length], fun i d hd => ?_⟩
  by_cases hi : i < ds.length
  · rw [List.getElem?_append_left (by simpa using hi), List.getElem?_map] at hd
    rw [List.getElem?_append_left (by simpa [h.length] using hi), List.getElem?_map]
    cases hq : ds[i]? with
    | none => rw [hq] at hd; cases hd
    | some d' =>
      rw [hq] at hd
      cases hd
      obtain ⟨v, h1, h2⟩ := h.get hq
      exact ⟨v, by rw [h1]; rfl, h2⟩
  · rw [List.getElem?_append_right (by simpa using hi)] at hd
    have hm := List.mem_of_getElem? hd
    rw [List.mem_replicate] at hm
    cases hm.2
/-! ### defs that are called while nothing is being shown (the model's guards are empty) -/
structure FnG (P : Program) (w : World) (K : PySem.W.Frag) (mg : Str → Option Value) (base : Heap) (k : Nat) (f : Addr) (fd : FuncData) (ps : List Str) (sp : Sp) : Prop where
  len : ∀ vs H Q E, sp vs H Q E → vs.length = ps.length
  run : ∀ (A : Around) (outer : List PySem.Env) (s : Shared) (H : Hp) (args : Args) (us : List Value) (vs : List V) (Q : VK) (E : XK), Room k A → A.guards = some [] → Env0 P w K mg base A outer s H → BindsTo s fd args (ps.zip us) → Vals vs us → sp vs H Q E →
    codeAny (model P w) A (.call (.ref f) args) (CR (L2N.CX P w) outer P w H s Q E) s
section
variable {P : Program} {w : World} {K : PySem.W.Frag} {mg : Str → Option Value} {base : Heap} {x qual : Str} {params : Arguments} {body : List Stmt} {scope : Scope} {dvs : List V} {kws : List (Str × V)} {f : Addr} {fd : FuncData}
theorem FnG.mono {ps : List Str} {sp : Sp} {j k : Nat} (F : FnG P w K mg base j f fd ps sp) (h : j ≤ k) : FnG P w K mg base k f fd ps sp :=
  ⟨F.len, fun A outer s H args us vs Q E hr hG e0 hb r hs => F.run A outer s H args us vs Q E (hr.mono h) hG e0 hb r hs⟩
theorem fnG_of {N ps : List Str} {k : Nat} {sp : Sp} (F : FunD K x qual params body scope dvs kws f fd) (S : FnScope N ps scope) (len : ∀ vs H Q E, sp vs H Q E → vs.length = ps.length)
    (hbody : ∀ (cdv : Value) (A : Around) (outer : List PySem.Env) (s : Shared) (H : Hp) (vs : List V) (Q : VK) (E : XK), (∀ p, f = He.fAd K p → cdv = .ref (He.codeOf K p)) → Room k (A.deeper (PyProof.Rows.envOfC qual scope s.heap.objs.size f cdv)) → A.guards = some [] → sp vs H Q E →
      ∃ t, PSs (cxOf (L2N.CX P w) P w K mg base N qual scope f cdv A outer s H E) body t ∧ t { nx := fun _ H' => Q .non H', rt := Q } (L2.start N vs) H) : FnG P w K mg base (k + 1) f fd ps sp := by
  obtain ⟨oc, od, dV, kV, doc, pm, an, cdv, ct, osl, rfl, lk, hcd, _, _⟩ := F.ex
  refine ⟨len, fun A outer s H args us vs Q E hr hG e0 hb r hsp => ?_⟩
  have old : ∀ b o, base.get? b = some o → s.heap.get? b = some o := fun b o e => (e0.bs b o e).1
  have KX : K.In s.heap := e0.mod.kin.keeps old
  refine codeAny_call_function hr.depth (KX _ _ lk) rfl S.co S.gen rfl (PySem.W.codeRec_of KX hcd) (hb _ _ _ _ (wpAny_newFunctionEnv_cells S.kind (fun ⟨n, v⟩ hy => (S.par n (List.of_mem_zip hy).1).imp id fun q => ⟨q, PySem.W.cellsFrom_some _ _ _ (.inl q)⟩) fun env he s1 x => ?_))
  subst he
  obtain ⟨t, ht, hq⟩ := hbody cdv A outer s H vs Q E (fun p e => by
    obtain ⟨c, rfl⟩ := He.codeIn_ref hcd
    rw [He.codeOf_eq (p := p) (e ▸ lk) rfl]) (hr.deeper _) hG hsp
  have I := inv_start (CX := L2N.CX P w) (E := E) S hr.hd e0 (len _ _ _ _ hsp) r x
  refine ⟨(e0.mod.nolimit.keeps old).keeps x.toInCall.keep, codeAny_func (wpAny_mono (ht.run [] s1 _ H _ I hq) (fun fl s' hs => ?_) fun e s' hs => hs)⟩
  cases fl with
  | ret u => obtain ⟨v, σ', H', J, rv, q⟩ := hs; exact ⟨v, H', J.os, J.bare, J.base, J.hok, rv, q⟩
  | next => obtain ⟨σ', H', J, q⟩ := hs; exact ⟨.non, H', J.os, J.bare, J.base, J.hok, rfl, q⟩
  | brk => exact (let ⟨_, _, _, q⟩ := hs; q : False).elim
  | cont => exact (let ⟨_, _, _, q⟩ := hs; q : False).elim
/-- what a body's reading is asked in -/
structure Ctx (P : Program) (w : World) (K : PySem.W.Frag) (mg : Str → Option Value) (base : Heap) (N : List Str) (scope : Scope) (k : Nat) (X : Cx) (W : WX) : Prop where
  prog : X.prog = P
  w : X.w = w
  K : X.K = K
  mg : X.mg = mg
  base : X.base = base
  tk : L2N.Takes X W
  own : PassesOwn (model X.prog X.w) X.A X.env X.xe
  room : Room k X.A
  hG : X.A.guards = some []
/-- a def of the text is what its body's reading says -/
theorem fn_okC {N ps : List Str} {k : Nat} {m : MS} (F : FunD K x qual params body scope dvs kws f fd) (S : FnScope N ps scope) (hle : ps.length ≤ N.length)
    (hb : ∀ (cdv : Value) (A : Around) (outer : List PySem.Env) (s : Shared) (H : Hp) (E : XK), (∀ p, f = He.fAd K p → cdv = .ref (He.codeOf K p)) → Ctx P w K mg base N scope k (cxOf (L2N.CX P w) P w K mg base N qual scope f cdv A outer s H E) (fun c d _ H' => E c d H') →
      SdB (cxOf (L2N.CX P w) P w K mg base N qual scope f cdv A outer s H E) (fun c d _ H' => E c d H') body m) :
    FnG P w K mg base (k + 1) f fd ps (spM K ps.length (fnM N.length m)) := by
  refine fnG_of F S (fun vs H Q E h => h.1) fun cdv A outer s H vs Q E hc hr hG h => ?_
  obtain ⟨hn, ds, st, Z, ι, hv, r, p⟩ := h
  refine ⟨rdS K (fun c d _ H' => E c d H') m, hb cdv A outer s H E hc ⟨rfl, rfl, rfl, rfl, rfl, L2N.takes_of rfl rfl rfl rfl, passes_of rfl, hr, hG⟩, ?_⟩
  have hl : ds.length ≤ N.length := by rw [← hv.length, hn]; exact hle
  unfold fnM at p
  rw [if_pos hl] at p
  refine ⟨ds.map some ++ List.replicate (N.length - ds.length) none, st, Z, ι, by unfold L2.start; rw [hv.length]; exact envR_start _ hv, r, ?_⟩
  cases hx : m (ds.map some ++ List.replicate (N.length - ds.length) none) st with
  | none => rw [hx] at p; exact p.elim
  | some q =>
    rw [hx] at p
    cases q with
    | nx ρ s1 => exact fun σ' H' Z' ι' g r e => p .non H' Z' ι' g r .non
    | rt d s1 => exact p
    | bk ρ s1 => exact p.elim
    | ct ρ s1 => exact p.elim
    | ex x ρ s1 => exact fun c d σ' H' Z' ι' g r e q => p c d H' Z' ι' g r q
theorem fn_ok {N ps : List Str} {k : Nat} {m : MS} (F : FunD K x qual params body scope dvs kws f fd) (S : FnScope N ps scope) (hle : ps.length ≤ N.length)
    (hb : ∀ (cdv : Value) (A : Around) (outer : List PySem.Env) (s : Shared) (H : Hp) (E : XK), Ctx P w K mg base N scope k (cxOf (L2N.CX P w) P w K mg base N qual scope f cdv A outer s H E) (fun c d _ H' => E c d H') →
      SdB (cxOf (L2N.CX P w) P w K mg base N qual scope f cdv A outer s H E) (fun c d _ H' => E c d H') body m) :
    FnG P w K mg base (k + 1) f fd ps (spM K ps.length (fnM N.length m)) := fn_okC F S hle fun cdv A outer s H E _ cx => hb cdv A outer s H E cx
end
/-! ### calls -/
def mCall (f : FM) (a : MA) : ME := fun ρ s => bnd (a ρ s) fun ds s => f ds s
section
variable {X : Cx} {W : WX} {e : Expr} {es : List Expr} {p pos : Pos} {ms : MA} {k n : Nat} {f : Addr} {fd : FuncData} {ps : List Str} {fm : FM} {x : Str} {sp : Sp} {ds : List Value} {dvs : List V}
theorem Post.toE {K : PySem.W.Frag} {σ : L2.St} {Z H : Hp} {ι : List Addr} {Q : VK} {y : RO D} (h : Post K W σ Z ι H (Rp K) Q y) : Post K (fun c d _ H' => WE W σ c d H') [] Z ι H (Rp K) Q y := by
  cases y with
  | none => exact h
  | some r => cases r with
    | ok a st => exact h
    | ex x st => exact h
theorem run_G {pins : List (Addr × Obj)} {σ : L2.St} {H : Hp} {s : Shared} {Q : VK} {us : List Value} {vs : List V} (F : FnG X.prog X.w X.K X.mg X.base k f fd ps sp) (hr : Room k X.A) (hG : X.A.guards = some []) (hb : Binds X.K fd ps ds) (hd : Vals dvs ds) (tk : L2N.Takes X W)
    (I : Inv X pins σ H s) (r : Vals vs us) (h : sp (vs ++ dvs) H Q (WE W σ)) : wpAny (model X.prog X.w) X.A (call (.ref f) us) (EP X pins σ Q) X.xe s := by
  have r2 := r.append hd
  have b := hb s us I.kIn (by rw [← r2.length, F.len _ _ _ _ h])
  refine wpAny_call (codeAny_mono (F.run X.A X.stack s H ⟨us, []⟩ (us ++ ds) _ Q (WE W σ) hr hG I.env0 b r2 h) fun r s' hq => ?_)
  match r, hq with
  | .error e, hq => exact L2N.passAt tk σ pins H s e s' I hq
  | .ok (.ret u), hq => exact I.after hq
theorem pe_callG (F : FnG X.prog X.w X.K X.mg X.base k f fd ps sp) (hr : Room k X.A) (hG : X.A.guards = some []) (hg : Gl X x) (hm : X.mg x = some (.ref f)) (hk : PySem.W.keepIn X.K (.ref f) = true) (hb : Binds X.K fd ps ds) (hd : Vals dvs ds) (tk : L2N.Takes X W) {t : TA}
    (ha : PA X (e :: es) t) (hdb : (x == ("__debug__" : Str)) = false) (he : starEach (e :: es) X.env = (false, eval e X.env) :: starEach es X.env) (hpl : (backTo pos (starEach es X.env)).any (·.1) = false) :
    PE X (.Call (.Name x p) (e :: es) [] pos) (fun σ H Q => t σ H fun vs H1 => sp (vs ++ dvs) H1 Q (WE W σ)) := ⟨fun pins s σ H Q I h =>
  PySem.wpAny_Call_Name_kw (ld_glob I hg hm (PySem.W.callWith_K (h₀ := X.base) I.ok.mod.kin hk (thn (ha.run pos pins s σ H _ I h) fun us s1 ⟨vs, H1, I1, r, q⟩ => ⟨I1.kIn, run_G F hr hG hb hd tk I1 r q⟩) he hpl) hdb)⟩
/-- a def's call; dfs: the defaults that fill up -/
theorem sd_callD {dfs : List D} (G : FnG X.prog X.w X.K X.mg X.base k f fd ps (spM X.K ps.length fm)) (hr : Room k X.A) (hG : X.A.guards = some []) (hm : X.mg x = some (.ref f)) (hk : PySem.W.keepIn X.K (.ref f) = true) (hb : Binds X.K fd ps ds) (hd : Vals dvs ds) (hdd : ∀ Z ι, RpL X.K Z ι dvs dfs) (tk : L2N.Takes X W) (ha : SdA X W (e :: es) ms)
    (hl : ∀ ρ s ds s', ms ρ s = some (.ok ds s') → ds.length + dfs.length = ps.length) (hg : Gl X x := by rfl) (hdb : (x == ("__debug__" : Str)) = false := by decide) (he : starEach (e :: es) X.env = (false, eval e X.env) :: starEach es X.env := by rfl) (hpl : (backTo pos (starEach es X.env)).any (·.1) = false := by rfl) :
    Sd X W (.Call (.Name x p) (e :: es) [] pos) (mCall (fun ds => fm (ds ++ dfs)) ms) := by
  refine pe_imp (pe_callG G hr hG hg hm hk hb hd tk ha hdb he hpl) fun σ H Q ⟨ρ, st, Z, ι, e, r, p⟩ => ?_
  refine ⟨ρ, st, Z, ι, e, r, ?_⟩
  unfold mCall at p
  cases hms : ms ρ st with
  | none => rw [hms] at p; exact p.elim
  | some q => cases q with
    | ok ds st1 =>
      rw [hms] at p
      intro vs H1 Z1 ι1 g1 r1 hv
      exact ⟨by rw [List.length_append, hv.length, (hdd Z1 ι1).length]; exact hl ρ st ds st1 hms, ds ++ dfs, st1, Z1, ι1, hv.append (hdd Z1 ι1), r1, ((show Post X.K W σ Z ι H (Rp X.K) Q (fm (ds ++ dfs) st1) from p).grow g1).toE⟩
    | ex x st1 => rw [hms] at p; exact p
theorem sd_call (G : FnG X.prog X.w X.K X.mg X.base k f fd ps (spM X.K ps.length fm)) (hr : Room k X.A) (hG : X.A.guards = some []) (hm : X.mg x = some (.ref f)) (hk : PySem.W.keepIn X.K (.ref f) = true) (hb : Binds X.K fd ps []) (tk : L2N.Takes X W) (ha : SdA X W (e :: es) ms)
    (hl : ∀ ρ s ds s', ms ρ s = some (.ok ds s') → ds.length = ps.length) (hg : Gl X x := by rfl) (hdb : (x == ("__debug__" : Str)) = false := by decide) (he : starEach (e :: es) X.env = (false, eval e X.env) :: starEach es X.env := by rfl) (hpl : (backTo pos (starEach es X.env)).any (·.1) = false := by rfl) :
    Sd X W (.Call (.Name x p) (e :: es) [] pos) (mCall fm ms) := by
  have h := sd_callD (dfs := []) (x := x) (p := p) (pos := pos) G hr hG hm hk hb .nil (fun _ _ => .nil) tk ha (fun ρ s ds s' q => by rw [hl ρ s ds s' q]; rfl) hg hdb he hpl
  have e : mCall (fun ds => fm (ds ++ [])) ms = mCall fm ms := by simp
  rw [e] at h
  exact h
end
theorem mNil_len : ∀ ρ s ds s', mNil ρ s = some (.ok ds s') → ds.length = 0 := fun ρ s ds s' h => by cases h; rfl
theorem mCons_len {a : ME} {r : MA} {n : Nat} (h : ∀ ρ s ds s', r ρ s = some (.ok ds s') → ds.length = n) : ∀ ρ s ds s', mCons a r ρ s = some (.ok ds s') → ds.length = n + 1 := fun ρ s ds s' e => by
  unfold mCons at e
  cases hx : a ρ s with
  | none => rw [hx] at e; cases e
  | some q => cases q with
    | ex x s1 => rw [hx] at e; cases e
    | ok d s1 =>
      rw [hx] at e
      dsimp only [bnd_ok] at e
      cases hy : r ρ s1 with
      | none => rw [hy] at e; cases e
      | some q => cases q with
        | ex x s2 => rw [hy] at e; cases e
        | ok ds2 s2 =>
          rw [hy] at e
          dsimp only [bnd_ok] at e
          cases e
          rw [List.length_cons, h _ _ _ _ hy]
end MP


set_option Elab.async false
set_option linter.all false
set_option maxRecDepth 100000
set_option maxHeartbeats 4000000
/-! MP5: list comprehensions -/
namespace MP
variable [Wd]
open PySem L2

def noX {α : Type} (x : RO α) : RO α := match x with
  | some (.ok a s) => some (.ok a s)
  | _ => none
@[simp] theorem noX_ok {α : Type} (a : α) (s : Sto) : noX (some (.ok a s)) = some (.ok a s) := rfl
@[simp] theorem noX_ex {α : Type} (x : Xc) (s : Sto) : noX (some (.ex x s) : RO α) = none := rfl
@[simp] theorem noX_none {α : Type} : noX (none : RO α) = none := rfl
theorem noX_inv {α : Type} {x : RO α} {a : α} {s : Sto} (h : noX x = some (.ok a s)) : x = some (.ok a s) := by
  unfold noX at h
  split at h
  · exact h
  · cases h
def wipeE (ρ : Env) : List Nat → Env
  | [] => ρ
  | v :: vs => (wipeE ρ vs).set v none
/-- the items of a comprehension -/
noncomputable def lcL (G : Sto → Prop) (g : MG) (c : MT) (elt : ME) (ρ : Env) : List D → Sto → RO (List D)
  | [], s => still G s (some (.ok [] s))
  | d :: ds, s => still G s (bnd (noX (g d ρ s)) fun ρ1 s => bnd (noX (c ρ1 s)) fun k s => if k = true then bnd (noX (elt ρ1 s)) fun y s => bnd (lcL G g c elt ρ ds s) fun ys s => some (.ok (y :: ys) s) else lcL G g c elt ρ ds s)
def mYes : MT := fun _ s => some (.ok true s)
noncomputable def lcM (mi : MI) (vs : List Nat) (g : MG) (c : MT) (elt : ME) : MA := fun ρ s => bnd (mi ρ s) fun src s => if src.1.length ≤ 16777216 then lcL src.2 g c elt (wipeE ρ vs) src.1 s else none
noncomputable def mLc (mi : MI) (vs : List Nat) (g : MG) (c : MT) (elt : ME) : ME := fun ρ s => bnd (lcM mi vs g c elt ρ s) fun ys s => some (.ok (.lst ys) s)
noncomputable def mLcB (mi : MI) (vs : List Nat) (g : MG) (c : MT) (elt : ME) : ME := fun ρ s => bnd (lcM mi vs g c elt ρ s) fun ys s => some (.ok (.ref s.length) (s ++ [.lst ys]))

theorem EnvR.wipe {K : PySem.W.Frag} {Z : Hp} {ι : List Addr} {ρ : Env} {σ : L2.St} (e : EnvR K Z ι ρ σ) : ∀ vs : List Nat, EnvR K Z ι (wipeE ρ vs) (L2.wipe σ vs)
  | [] => e
  | v :: vs => by
    have h := EnvR.wipe e vs
    refine ⟨by simp [wipeE, L2.wipe, h.len], fun i d hd => ?_⟩
    unfold wipeE at hd
    unfold L2.wipe
    rw [List.getElem?_set] at hd ⊢
    by_cases hv : v = i
    · subst hv
      rw [if_pos rfl] at hd
      split at hd <;> cases hd
    · rw [if_neg hv] at hd ⊢
      exact h.at_ i d hd
theorem wipe_set {x : Option V} : ∀ {vs : List Nat} {σ : L2.St} {i : Nat}, i ∈ vs → L2.wipe (σ.set i x) vs = L2.wipe σ vs
  | [], _, _, h => by cases h
  | v :: vs, σ, i, h => by
    unfold L2.wipe
    by_cases hv : i ∈ vs
    · rw [wipe_set hv]
    · have e : i = v := by
        rcases List.mem_cons.mp h with z | z
        · exact z
        · exact absurd z hv
      subst e
      have comm : ∀ (ws : List Nat) (τ : L2.St), i ∉ ws → L2.wipe (τ.set i x) ws = (L2.wipe τ ws).set i x := by
        intro ws
        induction ws with
        | nil => intro τ _; rfl
        | cons w ws ih =>
          intro τ hw
          unfold L2.wipe
          rw [ih τ (fun z => hw (List.mem_cons_of_mem _ z))]
          exact List.set_comm _ _ (fun z => hw (z ▸ List.mem_cons_self))
      rw [comm vs σ hv, List.set_set]
theorem wipe_wipe {σ : L2.St} : ∀ (vs ws : List Nat), (∀ v ∈ ws, v ∈ vs) → L2.wipe (L2.wipe σ ws) vs = L2.wipe σ vs
  | vs, [], _ => rfl
  | vs, w :: ws, h => by
    show L2.wipe ((L2.wipe σ ws).set w none) vs = _
    rw [wipe_set (h w List.mem_cons_self), wipe_wipe vs ws fun v hv => h v (List.mem_cons_of_mem _ hv)]
/-- a target of names within the slots vs -/
def GOk (K : PySem.W.Frag) (g : TG) (mg : MG) (vs : List Nat) : Prop := ∀ (d : D) (ρ ρ' : Env) (st st' : Sto) (v : V) (σ : L2.St) (H Z : Hp) (ι : List Addr) (Q : L2.St → Hp → Prop), mg d ρ st = some (.ok ρ' st') → Rel K st H Z ι → Rp K Z ι v d → EnvR K Z ι ρ σ →
  (∀ σ', st' = st → EnvR K Z ι ρ' σ' → L2.wipe σ' vs = L2.wipe σ vs → Q σ' H) → g v σ H Q
theorem gok_name {K : PySem.W.Frag} {vs : List Nat} {i : Nat} (h : i ∈ vs) : GOk K (gName i) (gmName i) vs := fun d ρ ρ' st st' v σ H Z ι Q e r h' en k => by
  cases e
  exact k _ rfl (en.set i h') (wipe_set h)
/-- something that is neither a box nor immutable changes -/
theorem Rel.other {K : PySem.W.Frag} {st : Sto} {H Z : Hp} {ι : List Addr} (r : Rel K st H Z ι) {p : Addr} {o : HO} (hz : Z p = none) (hi : p ∉ ι) : Rel K st (upd H p o) Z ι := by
  refine ⟨fun b u e => ?_, r.tb, r.len, r.nd, fun n ob a h1 h2 => ?_⟩
  · rw [upd_ne (ne_of_none e hz)]; exact r.zin _ _ e
  · have hne : a ≠ p := fun z => hi (z ▸ List.mem_of_getElem? h2)
    exact (r.ob n ob a h1 h2).keep (Ext.refl _ _) (fun z => z) fun u q => by rw [upd_ne hne]; exact q
/-- a list that stands in H, known to us alone, becomes immutable -/
theorem Rel.adoptZ {K : PySem.W.Frag} {st : Sto} {H Z : Hp} {ι : List Addr} (r : Rel K st H Z ι) {p : Addr} {o : HO} (hH : H p = some o) (hz : Z p = none) (hi : p ∉ ι) : Rel K st H (upd Z p o) ι ∧ Ext Z ι (upd Z p o) ι := by
  have g : Ext Z ι (upd Z p o) ι := ⟨Same.nt (same_upd hz), [], (List.append_nil ι).symm⟩
  refine ⟨⟨fun b u e => ?_, r.tb.ext (same_upd hz), r.len, r.nd, fun n ob a h1 h2 => ?_⟩, g⟩
  · by_cases hb : b = p
    · subst hb; rw [upd_same] at e; rw [← e]; exact hH
    · rw [upd_ne hb] at e; exact r.zin _ _ e
  · have hne : a ≠ p := fun z => hi (z ▸ List.mem_of_getElem? h2)
    exact (r.ob n ob a h1 h2).keep g (fun z => by rw [upd_ne hne]; exact z) fun u q => q
/-- .. becomes a box -/
theorem Rel.adoptB {K : PySem.W.Frag} {st : Sto} {H Z : Hp} {ι : List Addr} (r : Rel K st H Z ι) {p : Addr} {xs : List V} {ds : List D} (hH : H p = some (.lst xs)) (hz : Z p = none) (hi : p ∉ ι) (h : RpL K Z ι xs ds) : Rel K (st ++ [.lst ds]) H Z (ι ++ [p]) ∧ Ext Z ι Z (ι ++ [p]) := by
  have g : Ext Z ι Z (ι ++ [p]) := ⟨fun _ _ h _ => h, [p], rfl⟩
  refine ⟨⟨r.zin, r.tb, by simp [r.len], ?_, fun n u a h1 h2 => ?_⟩, g⟩
  · rw [List.nodup_append]
    refine ⟨r.nd, by simp, fun a ha b hb => ?_⟩
    have e : b = p := by simpa using hb
    subst e
    exact fun z => hi (z ▸ ha)
  · by_cases hn : n < st.length
    · rw [List.getElem?_append_left hn] at h1
      rw [List.getElem?_append_left (by rw [r.len]; exact hn)] at h2
      exact (r.ob n u a h1 h2).keep g (fun z => z) fun w q => q
    · have hn' : n = st.length := by
        have := (List.getElem?_eq_some_iff.mp h1).1
        simp at this
        omega
      subst hn'
      rw [List.getElem?_append_right (Nat.le_refl _)] at h1
      rw [List.getElem?_append_right (by rw [r.len]; exact Nat.le_refl _)] at h2
      simp [r.len] at h1 h2
      subst h1 h2
      exact ⟨hz, xs, hH, h.mono g⟩
abbrev W0 : WX := fun _ _ _ _ => False
theorem Post.ok0 {α β : Type} {K : PySem.W.Frag} {W : WX} {σ : L2.St} {Z H : Hp} {ι : List Addr} {rep : Hp → List Addr → β → α → Prop} {Q : β → Hp → Prop} {x : RO α} {a : α} {st : Sto} (e : x = some (.ok a st)) (k : ∀ b H' Z' ι', Grow Z ι H Z' ι' H' → Rel K st H' Z' ι' → rep Z' ι' b a → Q b H') : Post K W σ Z ι H rep Q x := by
  rw [e]; exact k
/-- the heart of a comprehension -/
theorem lc_post {K : PySem.W.Frag} {tg : TG} {g : MG} {c : MT} {elt : ME} {J : It} {Z0 : Hp} {ι0 : List Addr} {all : List D} {G : Sto → Prop} {vs : List Nat} {σ : L2.St} {ρ : Env} {st0 : Sto} {H1 : Hp} {tot : List D} {stE : Sto} {R : Hp → Prop} {L : Addr} (hw : WalkM K Z0 ι0 J (all, G)) (hlen : all.length ≤ 16777216) (hg : GOk K tg g vs) (e0 : EnvR K Z0 ι0 ρ σ) (r0 : Rel K st0 H1 Z0 ι0) (hL : H1 L = none)
    (hx : lcL G g c elt (wipeE ρ vs) all st0 = some (.ok tot stE)) (hR : ∀ H Z ι xs, Grow Z0 ι0 H1 Z ι H → Rel K stE H Z ι → Z L = none → L ∉ ι → H L = some (.lst xs) → RpL K Z ι xs tot → R H) :
    ∃ Wt : Nat → Nat → Hp → Prop, (∃ m, Wt 0 m (upd H1 L (.lst []))) ∧ ∀ i m H, Wt i m H →
      (J.stop i H ∧ R H) ∨ (J.go i H ∧ ∃ Nx : Hp → Prop, (∀ H', Nx H' → ∃ m', m' < m ∧ Wt (i + 1) m' H') ∧ ∀ x H', J.yld i H x H' → tg x (L2.wipe σ vs) H' fun σ2 H2 => L2.wipe σ2 vs = L2.wipe σ vs ∧ rdT K W0 c σ2 H2 fun b H3 =>
        if b = true then rd K W0 elt σ2 H3 fun y H4 => ∃ acc, H4 L = some (.lst acc) ∧ acc.length < sizeLine ∧ Nx (upd H4 L (.lst (acc ++ [y]))) else Nx H3) := by
  obtain ⟨hLz, hLi⟩ := r0.fresh hL
  let Pv : Nat → Hp → Prop := fun i H => ∃ st Z ι acc ys rest, Grow Z0 ι0 H1 Z ι H ∧ Rel K st H Z ι ∧ Z L = none ∧ L ∉ ι ∧ H L = some (.lst acc) ∧ RpL K Z ι acc ys ∧ acc.length ≤ i ∧ lcL G g c elt (wipeE ρ vs) (all.drop i) st = some (.ok rest stE) ∧ ys ++ rest = tot
  refine ⟨fun i m H => m = all.length - i ∧ i ≤ all.length ∧ Pv i H, ⟨all.length, rfl, Nat.zero_le _, ?_⟩, ?_⟩
  · obtain ⟨r1, g1⟩ := r0.junk (o := .lst []) hL
    exact ⟨st0, Z0, ι0, [], [], tot, g1, r1, hLz, hLi, upd_same, .nil, Nat.le_refl _, by simpa using hx, rfl⟩
  rintro i m H ⟨rfl, hi, st, Z, ι, acc, ys, rest, gr, r, zL, iL, hH, hr, hac, hx, hsum⟩
  by_cases hlt : i < all.length
  · have hd : all[i]? = some all[i] := List.getElem?_eq_getElem hlt
    have hdrop : all.drop i = all[i] :: all.drop (i + 1) := List.drop_eq_getElem_cons hlt
    rw [hdrop] at hx
    have hx2 := still_inv hx
    clear hx
    obtain ⟨hG, hx⟩ := hx2
    obtain ⟨go, yl⟩ := (hw i st H Z ι gr.toExt r hG).1 _ hd
    refine .inr ⟨go, fun H' => i + 1 ≤ all.length ∧ Pv (i + 1) H', fun H' h => ⟨all.length - (i + 1), by omega, rfl, h.1, h.2⟩, fun x H' y => ?_⟩
    obtain ⟨Z2, g2, r2, rx⟩ := yl x H' y
    cases h1 : noX (g all[i] (wipeE ρ vs) st) with
    | none => rw [h1] at hx; cases hx
    | some q1 => cases q1 with
      | ex x s => rw [h1] at hx; cases hx
      | ok ρ1 st1 =>
        rw [h1] at hx
        dsimp only [bnd_ok] at hx
        have e2 : EnvR K Z2 ι (wipeE ρ vs) (L2.wipe σ vs) := ((e0.mono gr.toExt).mono g2.toExt).wipe vs
        refine hg all[i] (wipeE ρ vs) ρ1 st st1 x (L2.wipe σ vs) H' Z2 ι _ (noX_inv h1) r2 rx e2 fun σ2 hst e3 wq => ?_
        subst hst
        refine ⟨by rw [wq, wipe_wipe vs vs fun v hv => hv], ρ1, st1, Z2, ι, e3, r2, ?_⟩
        -- L stands on
        have kL2 : H' L = some (.lst acc) := g2.keep L _ iL hH
        have zL2 : Z2 L = none := by
          cases e : Z2 L with
          | none => rfl
          | some o => rcases g2.zn L o e with q | q | q
                      · rw [zL] at q; cases q
                      · rw [hH] at q; cases q
                      · exact absurd q iL
        have step : ∀ {Za Zb Ha Hb : Hp} {ιa ιb : List Addr}, Grow Za ιa Ha Zb ιb Hb → Za L = none → L ∉ ιa → Ha L = some (.lst acc) → Zb L = none ∧ L ∉ ιb ∧ Hb L = some (.lst acc) := fun {Za Zb Ha Hb ιa ιb} g z i h => by
          refine ⟨?_, fun q => ?_, g.keep L _ i h⟩
          · cases e : Zb L with
            | none => rfl
            | some o => rcases g.zn L o e with q | q | q
                        · rw [z] at q; cases q
                        · rw [h] at q; cases q
                        · exact absurd q i
          · rcases g.new L q with q | q
            · exact i q
            · rw [h] at q; cases q
        cases h2 : noX (c ρ1 st1) with
        | none => rw [h2] at hx; cases hx
        | some q2 => cases q2 with
          | ex x s => rw [h2] at hx; cases hx
          | ok k st2 =>
            rw [h2] at hx
            dsimp only [bnd_ok] at hx
            refine Post.ok0 (noX_inv h2) fun b H3 Z3 ι3 g3 r3 hb => ?_
            cases (show b = k from hb)
            obtain ⟨zL3, iL3, kL3⟩ := step g3 zL2 iL kL2
            have gA := (gr.trans g2).trans g3
            cases k with
            | false =>
              rw [if_neg Bool.false_ne_true] at hx
              refine iteF ⟨hlt, st2, Z3, ι3, acc, ys, rest, gA, r3, zL3, iL3, kL3, hr.mono (g2.toExt.trans g3.toExt), by omega, hx, hsum⟩
            | true =>
              rw [if_pos rfl] at hx
              refine iteT ?_
              cases h3 : noX (elt ρ1 st2) with
              | none => rw [h3] at hx; cases hx
              | some q3 => cases q3 with
                | ex x s => rw [h3] at hx; cases hx
                | ok y' st3 =>
                  rw [h3] at hx
                  dsimp only [bnd_ok] at hx
                  cases h4 : lcL G g c elt (wipeE ρ vs) (all.drop (i + 1)) st3 with
                  | none => rw [h4] at hx; cases hx
                  | some q4 => cases q4 with
                    | ex x s => rw [h4] at hx; cases hx
                    | ok ys' st4 =>
                      rw [h4] at hx
                      dsimp only [bnd_ok] at hx
                      cases hx
                      refine ⟨ρ1, st2, Z3, ι3, e3.mono g3.toExt, r3, Post.ok0 (noX_inv h3) fun v H4 Z4 ι4 g4 r4 hv => ?_⟩
                      obtain ⟨zL4, iL4, kL4⟩ := step g4 zL3 iL3 kL3
                      refine ⟨acc, kL4, by rw [← sline]; omega, hlt, st3, Z4, ι4, acc ++ [v], ys ++ [y'], ys', ?_, r4.other zL4 iL4, zL4, iL4, upd_same, (hr.mono ((g2.toExt.trans g3.toExt).trans g4.toExt)).append (.one hv), by simp; omega, h4, by rw [List.append_assoc]; exact hsum⟩
                      have gB := gA.trans g4
                      exact ⟨gB.toExt, gB.kp.up fun b o hb hn e => by rw [upd_ne (fun z => hn (by rw [z]; exact hL))]; exact e, gB.new, gB.zn⟩
  · have he : i = all.length := by omega
    subst he
    rw [List.drop_length] at hx
    obtain ⟨hG, hx⟩ := still_inv hx
    cases hx
    refine .inl ⟨(hw _ _ H Z ι gr.toExt r hG).2 rfl, hR H Z ι acc gr r zL iL hH ?_⟩
    rw [List.append_nil] at hsum
    rw [← hsum]
    exact hr
theorem lcL_noex {G : Sto → Prop} {g : MG} {c : MT} {me : ME} {ρ : Env} {x : Xc} {s : Sto} : ∀ (ds : List D) (st : Sto), lcL G g c me ρ ds st ≠ some (.ex x s)
  | [], st => fun h => by cases (still_inv h).2
  | d :: ds, st => fun h => by
    have h := (still_inv h).2
    cases h1 : noX (g d ρ st) with
    | none => rw [h1] at h; cases h
    | some q1 => cases q1 with
      | ex x s => have := h1; unfold noX at this; split at this <;> cases this
      | ok ρ1 st1 =>
        rw [h1] at h
        dsimp only [bnd_ok] at h
        cases h2 : noX (c ρ1 st1) with
        | none => rw [h2] at h; cases h
        | some q2 => cases q2 with
          | ex x s => have := h2; unfold noX at this; split at this <;> cases this
          | ok k st2 =>
            rw [h2] at h
            dsimp only [bnd_ok] at h
            split at h
            · cases h3 : noX (me ρ1 st2) with
              | none => rw [h3] at h; cases h
              | some q3 => cases q3 with
                | ex x s => have := h3; unfold noX at this; split at this <;> cases this
                | ok y st3 =>
                  rw [h3] at h
                  dsimp only [bnd_ok] at h
                  cases h4 : lcL G g c me ρ ds st3 with
                  | none => rw [h4] at h; cases h
                  | some q4 => cases q4 with
                    | ex x s => exact lcL_noex ds st3 h4
                    | ok ys st4 => rw [h4] at h; cases h
            · exact lcL_noex ds st2 h
section
variable {X : Cx} {W : WX} {elt tg iter : Expr} {ifs : List Expr} {scope : Scope} {own : List (Str × Nat)} {pos : Pos} {mi : MI} {g : MG} {gt : TG} {c : MT} {me : ME}
theorem lc_read {K : PySem.W.Frag} {σ : L2.St} {H : Hp} {Q : VK} {vs : List Nat} (hg : GOk K gt g vs) (h : rd K W (mLc mi vs g c me) σ H Q) : tLc (rdI K W mi) gt (rdT K W0 c) (rd K W0 me) vs σ H Q := by
  obtain ⟨ρ, st, Z, ι, e, r, p⟩ := h
  unfold mLc lcM at p
  have p' : Post K W σ Z ι H (Rp K) Q (bnd (mi ρ st) fun src s => bnd (if src.1.length ≤ 16777216 then lcL src.2 g c me (wipeE ρ vs) src.1 s else none) fun ys s => some (.ok (.lst ys) s)) := by
    cases hx : mi ρ st with
    | none => rw [hx] at p; exact p
    | some q => rw [hx] at p; cases q <;> exact p
  refine rdG.mono (kont e r p') fun J H1 ⟨st1, Z1, ι1, ⟨ds, G⟩, g1, e1, r1, hw, p1⟩ L hL => ?_
  by_cases hlen : ds.length ≤ 16777216
  · rw [if_pos hlen] at p1
    cases hx : lcL G g c me (wipeE ρ vs) ds st1 with
    | none => rw [hx] at p1; exact p1.elim
    | some q => cases q with
      | ex x s => exact absurd hx (lcL_noex _ _)
      | ok tot stE =>
        rw [hx] at p1
        refine lc_post hw hlen hg e1 r1 hL hx fun H' Z' ι' xs gr r' zL iL hH hr => ?_
        obtain ⟨r2, g2⟩ := r'.adoptZ hH zL iL
        refine p1 (.ref L) H' _ ι' ⟨gr.toExt.trans g2, gr.kp, gr.new, fun b o eb => ?_⟩ r2 (.lst upd_same (hr.mono g2))
        by_cases hb : b = L
        · rw [hb]; exact .inr (.inl hL)
        · rw [upd_ne hb] at eb; exact gr.zn b o eb
  · rw [if_neg hlen] at p1; exact p1.elim
theorem lc_readB {K : PySem.W.Frag} {σ : L2.St} {H : Hp} {Q : VK} {vs : List Nat} (hg : GOk K gt g vs) (h : rd K W (mLcB mi vs g c me) σ H Q) : tLc (rdI K W mi) gt (rdT K W0 c) (rd K W0 me) vs σ H Q := by
  obtain ⟨ρ, st, Z, ι, e, r, p⟩ := h
  unfold mLcB lcM at p
  have p' : Post K W σ Z ι H (Rp K) Q (bnd (mi ρ st) fun src s => bnd (if src.1.length ≤ 16777216 then lcL src.2 g c me (wipeE ρ vs) src.1 s else none) fun ys s => some (.ok (.ref s.length) (s ++ [.lst ys]))) := by
    cases hx : mi ρ st with
    | none => rw [hx] at p; exact p
    | some q => rw [hx] at p; cases q <;> exact p
  refine rdG.mono (kont e r p') fun J H1 ⟨st1, Z1, ι1, ⟨ds, G⟩, g1, e1, r1, hw, p1⟩ L hL => ?_
  by_cases hlen : ds.length ≤ 16777216
  · rw [if_pos hlen] at p1
    cases hx : lcL G g c me (wipeE ρ vs) ds st1 with
    | none => rw [hx] at p1; exact p1.elim
    | some q => cases q with
      | ex x s => exact absurd hx (lcL_noex _ _)
      | ok tot stE =>
        rw [hx] at p1
        refine lc_post hw hlen hg e1 r1 hL hx fun H' Z' ι' xs gr r' zL iL hH hr => ?_
        obtain ⟨r2, g2⟩ := r'.adoptB hH zL iL hr
        refine p1 (.ref L) H' _ (ι' ++ [L]) ⟨gr.toExt.trans g2, gr.kp, fun b hb => ?_, gr.zn⟩ r2 (.ref (by rw [← r'.len]; simp))
        rcases List.mem_append.mp hb with q | q
        · exact gr.new b q
        · have eb : b = L := by simpa using q
          rw [eb]; exact .inr hL
  · rw [if_neg hlen] at p1; exact p1.elim
theorem sts_nil {Y : Cx} {V : WX} : PTs Y [] (rdT Y.K V mYes) := ⟨fun pins s σ H Q I ⟨ρ, st, Z, ι, e, r, p⟩ => (pts_nil (X := Y)).run pins s σ H Q I (p true H Z ι (Grow.refl _ _ _) r rfl)⟩
theorem sts_one {Y : Cx} {V : WX} {t : Expr} {mt : MT} (h : SdT Y V t mt) : PTs Y [t] (rdT Y.K V mt) := pts_one h
/-- [elt for tg in iter if ..] -/
theorem sd_lc (hN : X.N.Nodup) (hi : SdI X W tg iter mi) (ok : BlkOk X.N X.env.scope scope own)
    (hg : ∀ (s : Shared) (H : Hp) (C : Addr) (cl : List (Str × Addr)) (fp : List Addr), PG (X.blk s H scope (compEnvC scope cl C X.env) fp) tg gt) (hgo : GOk X.K gt g (own.map (·.2)))
    (ht : ∀ (s : Shared) (H : Hp) (C : Addr) (cl : List (Str × Addr)) (fp : List Addr), PTs (X.blk s H scope (compEnvC scope cl C X.env) fp) ifs (rdT X.K W0 c))
    (he : ∀ (s : Shared) (H : Hp) (C : Addr) (cl : List (Str × Addr)) (fp : List Addr), Sd (X.blk s H scope (compEnvC scope cl C X.env) fp) W0 elt me) (hc : X.calm = true := by rfl) (hs : ∀ x, foldedSetIterable iter X.env x = pure x := by intro _; rfl) :
    Sd X W (.ListComp elt [⟨tg, iter, ifs, 0⟩] scope pos) (mLc mi (own.map (·.2)) g c me) := pe_imp (pe_lc hc hN hi ok hg ht he hs) fun _ _ _ h => lc_read hgo h
theorem sd_lcB (hN : X.N.Nodup) (hi : SdI X W tg iter mi) (ok : BlkOk X.N X.env.scope scope own)
    (hg : ∀ (s : Shared) (H : Hp) (C : Addr) (cl : List (Str × Addr)) (fp : List Addr), PG (X.blk s H scope (compEnvC scope cl C X.env) fp) tg gt) (hgo : GOk X.K gt g (own.map (·.2)))
    (ht : ∀ (s : Shared) (H : Hp) (C : Addr) (cl : List (Str × Addr)) (fp : List Addr), PTs (X.blk s H scope (compEnvC scope cl C X.env) fp) ifs (rdT X.K W0 c))
    (he : ∀ (s : Shared) (H : Hp) (C : Addr) (cl : List (Str × Addr)) (fp : List Addr), Sd (X.blk s H scope (compEnvC scope cl C X.env) fp) W0 elt me) (hc : X.calm = true := by rfl) (hs : ∀ x, foldedSetIterable iter X.env x = pure x := by intro _; rfl) :
    Sd X W (.ListComp elt [⟨tg, iter, ifs, 0⟩] scope pos) (mLcB mi (own.map (·.2)) g c me) := pe_imp (pe_lc hc hN hi ok hg ht he hs) fun _ _ _ h => lc_readB hgo h
theorem asg_name {K : PySem.W.Frag} {E : Ends} {σ : L2.St} {H : Hp} {i : Nat} {m : ME} {t : TE} (hm : ∀ Q, rd K W m σ H Q → t σ H Q) (h : rdS K W (mSet i m) E σ H) : tAsg t (gName i) E σ H := by
  obtain ⟨ρ, st, Z, ι, e, r, p⟩ := h
  refine hm _ (rdG.mono (skont e r p) fun v H1 ⟨st1, Z1, ι1, x, g1, e1, r1, rx, p1⟩ => PostS.nx_ p1 (e1.set i rx) r1)
/-- y = [..] on one line -/
theorem ss_setLc {i : Nat} {y : Str} {py spos : Pos} (hN : X.N.Nodup) (hi : SdI X W tg iter mi) (ok : BlkOk X.N X.env.scope scope own)
    (hg : ∀ (s : Shared) (H : Hp) (C : Addr) (cl : List (Str × Addr)) (fp : List Addr), PG (X.blk s H scope (compEnvC scope cl C X.env) fp) tg gt) (hgo : GOk X.K gt g (own.map (·.2)))
    (ht : ∀ (s : Shared) (H : Hp) (C : Addr) (cl : List (Str × Addr)) (fp : List Addr), PTs (X.blk s H scope (compEnvC scope cl C X.env) fp) ifs (rdT X.K W0 c))
    (he : ∀ (s : Shared) (H : Hp) (C : Addr) (cl : List (Str × Addr)) (fp : List Addr), Sd (X.blk s H scope (compEnvC scope cl C X.env) fp) W0 elt me)
    (hsw : swapsWith (.ListComp elt [⟨tg, iter, ifs, 0⟩] scope pos) (some (.Name y py)) spos.line X.env = pure true) (hc : X.calm = true := by rfl) (hy : X.N[i]? = some y := by rfl) (hyl : X.env.scope.names.lookup y = some .local := by rfl) (hs : ∀ x, foldedSetIterable iter X.env x = pure x := by intro _; rfl) :
    SdS X W (.Assign [.Name y py] (.ListComp elt [⟨tg, iter, ifs, 0⟩] scope pos) spos) (mSet i (mLc mi (own.map (·.2)) g c me)) := ps_imp (ps_setLc hc hN hy hyl hsw hi ok hg ht he hs) fun _ _ _ h => asg_name (fun _ q => lc_read hgo q) h
theorem ss_setLcB {i : Nat} {y : Str} {py spos : Pos} (hN : X.N.Nodup) (hi : SdI X W tg iter mi) (ok : BlkOk X.N X.env.scope scope own)
    (hg : ∀ (s : Shared) (H : Hp) (C : Addr) (cl : List (Str × Addr)) (fp : List Addr), PG (X.blk s H scope (compEnvC scope cl C X.env) fp) tg gt) (hgo : GOk X.K gt g (own.map (·.2)))
    (ht : ∀ (s : Shared) (H : Hp) (C : Addr) (cl : List (Str × Addr)) (fp : List Addr), PTs (X.blk s H scope (compEnvC scope cl C X.env) fp) ifs (rdT X.K W0 c))
    (he : ∀ (s : Shared) (H : Hp) (C : Addr) (cl : List (Str × Addr)) (fp : List Addr), Sd (X.blk s H scope (compEnvC scope cl C X.env) fp) W0 elt me)
    (hsw : swapsWith (.ListComp elt [⟨tg, iter, ifs, 0⟩] scope pos) (some (.Name y py)) spos.line X.env = pure true) (hc : X.calm = true := by rfl) (hy : X.N[i]? = some y := by rfl) (hyl : X.env.scope.names.lookup y = some .local := by rfl) (hs : ∀ x, foldedSetIterable iter X.env x = pure x := by intro _; rfl) :
    SdS X W (.Assign [.Name y py] (.ListComp elt [⟨tg, iter, ifs, 0⟩] scope pos) spos) (mSet i (mLcB mi (own.map (·.2)) g c me)) := ps_imp (ps_setLc hc hN hy hyl hsw hi ok hg ht he hs) fun _ _ _ h => asg_name (fun _ q => lc_readB hgo q) h
end
end MP


set_option Elab.async false
set_option linter.all false
set_option maxRecDepth 100000
set_option maxHeartbeats 4000000
/-! MP6: what is walked: lists, tuples, texts, ranges, zip and enumerate of any of them -/
namespace MP
variable [Wd]
open PySem L2

def signs (z : Str) : List D := z.cps.toList.map fun c => .str ⟨#[c]⟩
abbrev Src := List D × (Sto → Prop)
/-- what is walked: its items; a box must stand as it stood -/
def seqOf (s : Sto) : D → Option Src
  | .lst l => some (l, any_)
  | .tup l => some (l, any_)
  | .str z => some (signs z, any_)
  | .ref n => match s[n]? with
    | some (.lst l) => some (l, fun s => s[n]? = some (.lst l))
    | _ => none
  | _ => none
def miSeq (a : ME) : MI := fun ρ s => bnd (a ρ s) fun d s => ofO (seqOf s d) s
/-! ### walks of immutable things -/
section
variable {K : PySem.W.Frag} {Z : Hp} {ι : List Addr}
theorem walk_lst {a : Addr} {xs : List V} {ds : List D} (h : Z a = some (.lst xs)) (q : RpL K Z ι xs ds) : WalkM K Z ι (Itl K a) (ds, any_) := fun i st H Z1 ι1 g r _ => by
  have hH : SqL K H a xs := SqL.of (r.zin _ _ (g.z _ _ h))
  refine ⟨fun d hd => ?_, fun hi => ⟨xs, hH, by rw [q.length, hi]; exact Nat.le_refl _⟩⟩
  obtain ⟨v, hv, rv⟩ := q.get hd
  refine ⟨⟨xs, v, hH, hv⟩, fun x H' y => ?_⟩
  obtain ⟨rfl, y2⟩ := y
  have e := y2 xs hH
  rw [hv] at e
  cases e
  exact ⟨Z1, Grow.refl _ _ _, r, rv.mono g⟩
theorem walk_box {n : Nat} {a : Addr} {ds : List D} (h : ι[n]? = some a) : WalkM K Z ι (Itl K a) (ds, fun s => s[n]? = some (.lst ds)) := fun i st H Z1 ι1 g r hs => by
  obtain ⟨hz, xs, hH, q⟩ := r.ob n _ a hs (g.get h)
  refine ⟨fun d hd => ?_, fun hi => ⟨xs, SqL.of hH, by rw [q.length, hi]; exact Nat.le_refl _⟩⟩
  obtain ⟨v, hv, rv⟩ := q.get hd
  refine ⟨⟨xs, v, SqL.of hH, hv⟩, fun x H' y => ?_⟩
  obtain ⟨rfl, y2⟩ := y
  have e := y2 xs (SqL.of hH)
  rw [hv] at e
  cases e
  exact ⟨Z1, Grow.refl _ _ _, r, rv⟩
theorem walk_tupM {a : Addr} {xs : List V} {ds : List D} (h : SqT K Z a xs) (q : RpL K Z ι xs ds) : WalkM K Z ι (Itt K a) (ds, any_) := fun i st H Z1 ι1 g r _ => by
  have hH : SqT K H a xs := same_sqt r.zin (same_sqtN g.zs h)
  refine ⟨fun d hd => ?_, fun hi => ⟨xs, hH, by rw [q.length, hi]; exact Nat.le_refl _⟩⟩
  obtain ⟨v, hv, rv⟩ := q.get hd
  refine ⟨⟨xs, v, hH, hv⟩, fun x H' y => ?_⟩
  obtain ⟨rfl, y2⟩ := y
  have e := y2 xs hH
  rw [hv] at e
  cases e
  exact ⟨Z1, Grow.refl _ _ _, r, rv.mono g⟩
theorem signs_get {z : Str} {i : Nat} {d : D} (h : (signs z)[i]? = some d) : ∃ c, z.cps[i]? = some c ∧ d = .str ⟨#[c]⟩ := by
  unfold signs at h
  rw [List.getElem?_map, Array.getElem?_toList] at h
  cases e : z.cps[i]? with
  | none => rw [e] at h; cases h
  | some c => rw [e] at h; cases h; exact ⟨c, rfl, rfl⟩
theorem signs_len (z : Str) : (signs z).length = z.cps.size := by simp [signs]
theorem walk_txt {z : Str} : WalkM K Z ι (Its z) (signs z, any_) := fun i st H Z1 ι1 g r _ => by
  refine ⟨fun d hd => ?_, fun hi => by rw [show (signs z, any_).1.length = (signs z).length from rfl, signs_len] at hi; exact Nat.le_of_eq hi.symm⟩
  obtain ⟨c, hc, rfl⟩ := signs_get hd
  have hlt : i < z.cps.size := (Array.getElem?_eq_some_iff.mp hc).1
  refine ⟨hlt, fun x H' y => ?_⟩
  obtain ⟨rfl, c', hc', rfl⟩ := y
  rw [hc] at hc'
  cases hc'
  exact ⟨Z1, Grow.refl _ _ _, r, .str _⟩
def upto (n : Nat) : List D := (List.range n).map fun i => .int ((i : Nat) : Int)
theorem upto_len (n : Nat) : (upto n).length = n := by simp [upto]
theorem upto_get {n i : Nat} {d : D} (h : (upto n)[i]? = some d) : i < n ∧ d = .int (i : Int) := by
  unfold upto at h
  rw [List.getElem?_map] at h
  cases e : (List.range n)[i]? with
  | none => rw [e] at h; cases h
  | some j =>
    rw [e] at h
    cases h
    obtain ⟨h1, h2⟩ := List.getElem?_eq_some_iff.mp e
    simp at h1 h2
    subst h2
    exact ⟨h1, rfl⟩
theorem walk_rng {n : Nat} : WalkM K Z ι (Itr 0 n) (upto n, any_) := fun i st H Z1 ι1 g r _ => by
  refine ⟨fun d hd => ?_, fun hi => by rw [show (upto n, any_).1.length = (upto n).length from rfl, upto_len] at hi; exact Nat.le_of_eq hi.symm⟩
  obtain ⟨hi, rfl⟩ := upto_get hd
  refine ⟨hi, fun x H' y => ?_⟩
  obtain ⟨rfl, rfl⟩ := y
  exact ⟨Z1, Grow.refl _ _ _, r, by rw [Int.zero_add]; exact .int _⟩
end
section
variable {X : Cx} {W : WX} {tg e a b : Expr} {pos p : Pos} {me : ME} {ms : MA}
theorem si_seq (he : Sd X W e me) : SdI X W tg e (miSeq me) := ⟨fun pins s σ H R I h => by
  obtain ⟨ρ, st, Z, ι, en, r, q⟩ := h
  unfold miSeq at q
  cases hx : me ρ st with
  | none => rw [hx] at q; exact q.elim
  | some z => cases z with
    | ex x st1 => rw [hx] at q; exact (pi_list he).run pins s σ H R I ⟨ρ, st, Z, ι, en, r, by rw [hx]; exact q⟩
    | ok d st1 =>
      rw [hx] at q
      dsimp only [bnd_ok] at q
      cases d with
      | lst l =>
        refine (pi_list he).run pins s σ H R I ⟨ρ, st, Z, ι, en, r, by
          rw [hx]
          intro v H1 Z1 ι1 g r1 rv
          cases rv with
          | lst h hq => exact ⟨_, rfl, ⟨_, SqL.of (r1.zin _ _ h)⟩, q _ H1 Z1 ι1 g r1 (walk_lst h hq)⟩⟩
      | tup l =>
        refine (pi_tup he).run pins s σ H R I ⟨ρ, st, Z, ι, en, r, by
          rw [hx]
          intro v H1 Z1 ι1 g r1 rv
          cases rv with
          | tup h hq => exact ⟨_, rfl, ⟨_, same_sqt r1.zin h⟩, q _ H1 Z1 ι1 g r1 (walk_tupM h hq)⟩⟩
      | str z =>
        refine (pi_str he).run pins s σ H R I ⟨ρ, st, Z, ι, en, r, by
          rw [hx]
          intro v H1 Z1 ι1 g r1 rv
          cases rv
          exact ⟨z, rfl, q _ H1 Z1 ι1 g r1 walk_txt⟩⟩
      | ref n =>
        cases hs : st1[n]? with
        | none => simp only [seqOf, hs] at q; exact q.elim
        | some o => cases o with
          | lst l =>
            simp only [seqOf, hs] at q
            refine (pi_list he).run pins s σ H R I ⟨ρ, st, Z, ι, en, r, by
              rw [hx]
              intro v H1 Z1 ι1 g r1 rv
              cases rv with
              | @ref n a h =>
                obtain ⟨_, xs, hH, _⟩ := r1.ob n _ a hs h
                exact ⟨_, rfl, ⟨_, SqL.of hH⟩, q _ H1 Z1 ι1 g r1 (walk_box h)⟩⟩
          | _ => simp only [seqOf, hs] at q; exact q.elim
      | _ => exact q.elim⟩
def rng? : List D → Option Src
  | [.int n] => if -4611686018427387904 ≤ n ∧ n < 4611686018427387904 then some (upto n.toNat, any_) else none
  | _ => none
def miRng (a : MA) : MI := fun ρ s => bnd (a ρ s) fun ds s => ofO (rng? ds) s
theorem si_range (hm : X.mg "range" = none) (ha : SdA X W [a] ms) (hg : Gl X "range" := by rfl) (hs : starEach [a] X.env = [(false, eval a X.env)] := by rfl) : SdI X W tg (.Call (.Name "range" p) [a] [] pos) (miRng ms) := by
  refine pi_imp (pi_range1 hg hm ha hs) fun σ H R ⟨ρ, st, Z, ι, e, r, q⟩ => ?_
  refine rdG.mono (kont e r q) fun vs H1 ⟨st1, Z1, ι1, ds, g1, e1, r1, hv, q1⟩ => ?_
  cases hv with
  | nil => exact q1.elim
  | cons h1 h2 => cases h2 with
    | cons _ _ => cases h1 <;> exact q1.elim
    | nil =>
      cases h1 with
      | int n =>
        unfold rng? at q1
        dsimp only at q1
        split at q1
        · rename_i hn
          exact ⟨n, rfl, by omega, by omega, q1 _ H1 Z1 ι1 (Grow.refl _ _ _) r1 walk_rng⟩
        · exact q1.elim
      | _ => exact q1.elim
end

/-! ### zip and enumerate of lists, tuples, texts -/
/-- a source that an iterator draws from -/
inductive Sk where
  | lst (a : Addr)
  | tup (a : Addr)
  | txt (z : Str) (t : Tok)
def Sk.at_ (K : PySem.W.Frag) (H : Hp) (xs : List V) : Sk → Prop
  | .lst a => SqL K H a xs
  | .tup a => SqT K H a xs
  | .txt z _ => xs = z.cps.toList.map fun c => V.str ⟨#[c]⟩
def Sk.own (it : Addr) (i : Nat) (h : Heap) : Sk → Prop
  | .lst a => h.IsListIter it a i
  | .tup a => h.IsTupleIter it a i
  | .txt z t => h.IsStrIter it (strIterType z) z t i
def Sk.is (v : V) : Sk → Prop
  | .lst a => v = .ref a
  | .tup a => v = .ref a
  | .txt z _ => v = .str z
def Sk.first : Sk → Obj
  | .lst l => { cls := .type "list_iterator", data := .fields #[.ref l, .int 0 0] }
  | .tup l => { cls := .type "tuple_iterator", data := .fields #[.ref l, .int 0 0] }
  | .txt x t => { cls := .type (strIterType x), data := .fields #[.str x t, .int 0 0] }
def Sk.val : Sk → Value
  | .lst a => .ref a
  | .tup a => .ref a
  | .txt z t => .str z t
theorem Sk.own_obj {k : Sk} {it : Addr} {i : Nat} {h : Heap} (o : k.own it i h) : ∃ ob, h.get? it = some ob ∧ ∀ v, ob.data ≠ .cell v := by
  cases k with
  | lst a => obtain ⟨ob, e, _, d⟩ := o; exact ⟨ob, e, fun v z => by rw [d] at z; cases z⟩
  | tup a => obtain ⟨ob, e, _, d⟩ := o; exact ⟨ob, e, fun v z => by rw [d] at z; cases z⟩
  | txt x t => obtain ⟨ob, e, _, d⟩ := o; exact ⟨ob, e, fun v z => by rw [d] at z; cases z⟩
theorem Sk.own_keep {k : Sk} {it : Addr} {i : Nat} {h h' : Heap} (o : k.own it i h) (e : ∀ ob, h.get? it = some ob → h'.get? it = some ob) : k.own it i h' := by
  cases k with
  | lst a => exact Heap.IsListIter.at o e
  | tup a => exact Heap.IsTupleIter.at o e
  | txt x t => obtain ⟨ob, q, c⟩ := o; exact ⟨ob, e _ q, c⟩
theorem Sk.first_own (k : Sk) {it : Addr} {h : Heap} (e : h.get? it = some k.first) : k.own it 0 h := by
  cases k with
  | lst a => exact ⟨_, e, rfl, rfl⟩
  | tup a => exact ⟨_, e, rfl, rfl⟩
  | txt x t => exact ⟨_, e, rfl, rfl⟩
section
variable {X : Cx} {pins : List (Addr × Obj)} {σ : L2.St} {H : Hp} {s : Shared}
/-- what stands as a source is no cell of an iterator's own -/
theorem fp_ne_sq (I : Inv X pins σ H s) {a b : Addr} {xs : List V} (h : SqL X.K H a xs ∨ SqT X.K H a xs) (f : FpOk X pins H b) : b ≠ a := by
  have kk : ∀ o, X.K.lookup a = some o → b ≠ a := fun o e z => by
    have hb : X.base.get? b = some o := by rw [z]; exact I.ok.mod.kin a o e
    obtain ⟨_, _, _, h4, _, _⟩ := f
    rcases h4 with q | q
    · exact I.ok.noex b o hb q
    · exact absurd (Nat.lt_of_lt_of_le (Heap.lt_size (I.ok.bs b o hb).1) q) (Nat.lt_irrefl _)
  have hh : ∀ o, H a = some o → b ≠ a := fun o e z => by
    rw [← z, f.1] at e; cases e
  rcases h with (h | ⟨o, _, _, e, _⟩) | (h | ⟨o, _, _, e, _⟩)
  · rcases h with h | ⟨o, h⟩
    · exact hh _ h
    · exact hh _ h
  · exact kk _ e
  · rcases h with h | ⟨o, h⟩
    · exact hh _ h
    · exact hh _ h
  · exact kk _ e
theorem Sk.draws {A : Around} {k : Sk} {xs : List V} (I : Inv X pins σ H s) (hh : A.handled = none) (at_ : k.at_ X.K H xs) {it : Addr} (hf : FpOk X pins H it) : ∃ (fp : List Addr) (P : Nat → Value → Prop) (St : Nat → Heap → Prop), Draws X.prog X.w A it fp xs.length P St ∧ it ∈ fp ∧
    (∀ i, k.own it i s.heap → St i s.heap) ∧ (∀ i h, St i h → k.own it i h) ∧ (∀ i x, P i x → ∃ y, xs[i]? = some y ∧ RelV y x) ∧ (∀ b, FpOk X pins H b → b ≠ it → b ∉ fp) := by
  cases k with
  | lst a =>
    have at' : SqL X.K H a xs := at_
    obtain ⟨its, rv, p, hz⟩ := I.list at'
    have hl := rv.length
    have D := Draws.list (prog := X.prog) (w := X.w) (A := A) hh it a (fp_ne_sq I (.inl at') hf).symm its.toArray
    have D' : Draws X.prog X.w A it [it, a] xs.length (fun i v => its.toArray[i]? = some v) (fun i h => h.IsListIter it a i ∧ h.IsList a its.toArray) := by
      rw [hl]
      exact (show its.toArray.size = its.length from List.size_toArray) ▸ D
    refine ⟨_, _, _, D', by simp, fun i o => ⟨o, p.isList⟩, fun i h q => q.1, fun i x q => ?_, fun b f nb hm => ?_⟩
    · have q' : its[i]? = some x := by simpa using q
      have hi : i < xs.length := by rw [hl]; exact (List.getElem?_eq_some_iff.mp q').1
      obtain ⟨u, hu, ru⟩ := rv.get (List.getElem?_eq_getElem hi)
      rw [q'] at hu
      cases hu
      exact ⟨_, List.getElem?_eq_getElem hi, ru⟩
    · have e : b = it ∨ b = a := by simpa using hm
      rcases e with e | e
      · exact nb e
      · exact fp_ne_sq I (.inl at') f e
  | tup a =>
    have at' : SqT X.K H a xs := at_
    obtain ⟨its, rv, p, hz⟩ := I.tuple at'
    have hl := rv.length
    have D := Draws.tuple (prog := X.prog) (w := X.w) (A := A) hh it a (fp_ne_sq I (.inr at') hf).symm its.toArray
    have D' : Draws X.prog X.w A it [it, a] xs.length (fun i v => its.toArray[i]? = some v) (fun i h => h.IsTupleIter it a i ∧ h.IsTuple a its.toArray) := by
      rw [hl]
      exact (show its.toArray.size = its.length from List.size_toArray) ▸ D
    refine ⟨_, _, _, D', by simp, fun i o => ⟨o, p⟩, fun i h q => q.1, fun i x q => ?_, fun b f nb hm => ?_⟩
    · have q' : its[i]? = some x := by simpa using q
      have hi : i < xs.length := by rw [hl]; exact (List.getElem?_eq_some_iff.mp q').1
      obtain ⟨u, hu, ru⟩ := rv.get (List.getElem?_eq_getElem hi)
      rw [q'] at hu
      cases hu
      exact ⟨_, List.getElem?_eq_getElem hi, ru⟩
    · have e : b = it ∨ b = a := by simpa using hm
      rcases e with e | e
      · exact nb e
      · exact fp_ne_sq I (.inr at') f e
  | txt z t =>
    have at' : xs = z.cps.toList.map fun c => V.str ⟨#[c]⟩ := at_
    subst at'
    have D := Draws.text (prog := X.prog) (w := X.w) (A := A) hh it z t
    have D' : Draws X.prog X.w A it [it] (z.cps.toList.map fun c => V.str ⟨#[c]⟩).length (fun i v => ∃ c u, z.cps[i]? = some c ∧ v = .str ⟨#[c]⟩ u) (fun i h => h.IsStrIter it (strIterType z) z t i) := by
      rw [List.length_map, Array.length_toList]
      exact D
    refine ⟨_, _, _, D', by simp, fun i o => o, fun i h q => q, fun i x q => ?_, fun b f nb hm => ?_⟩
    · obtain ⟨c, u, hc, rfl⟩ := q
      exact ⟨.str ⟨#[c]⟩, by simp [hc], u, rfl⟩
    · exact nb (by simpa using hm)
theorem Sk.begins {k : Sk} {xs : List V} (I : Inv X pins σ H s) (at_ : k.at_ X.K H xs) : ∃ Hc : Heap → Prop, Begins k.val k.first Hc ∧ Hc s.heap := by
  cases k with
  | lst a =>
    obtain ⟨its, rv, p, hz⟩ := I.list (show SqL X.K H a xs from at_)
    exact ⟨_, begins_list a its.toArray, p.isList⟩
  | tup a =>
    obtain ⟨its, rv, p, hz⟩ := I.tuple (show SqT X.K H a xs from at_)
    exact ⟨_, begins_tuple a its.toArray, p⟩
  | txt z t => exact ⟨_, begins_text z t, trivial⟩
end
/-- zip of two sources -/
def ItZ (K : PySem.W.Frag) (k1 k2 : Sk) : It :=
  ⟨fun i H => ∃ xs ys, k1.at_ K H xs ∧ k2.at_ K H ys ∧ i < xs.length ∧ i < ys.length,
    fun i H v H' => ∃ T x y, v = .ref T ∧ H T = none ∧ H' = upd H T (.tup [x, y]) ∧ (∀ xs, k1.at_ K H xs → xs[i]? = some x) ∧ ∀ ys, k2.at_ K H ys → ys[i]? = some y,
    fun i H => ∃ xs ys, k1.at_ K H xs ∧ k2.at_ K H ys ∧ i = min xs.length ys.length⟩
theorem Sk.inj {X : Cx} {pins : List (Addr × Obj)} {σ : L2.St} {H : Hp} {s : Shared} {k : Sk} {xs ys : List V} (I : Inv X pins σ H s) (h : k.at_ X.K H xs) (h' : k.at_ X.K H ys) : xs = ys := by
  cases k with
  | lst a => exact I.list_inj h h'
  | tup a => exact I.tuple_inj h h'
  | txt z t => exact (show xs = _ from h).trans (show ys = _ from h').symm
structure Five (z TI TO i1 i2 : Addr) : Prop where
  a1 : z ≠ TI
  a2 : z ≠ TO
  a3 : z ≠ i1
  a4 : z ≠ i2
  a5 : TI ≠ TO
  a6 : TI ≠ i1
  a7 : TI ≠ i2
  a8 : TO ≠ i1
  a9 : TO ≠ i2
  a10 : i1 ≠ i2
theorem turn_zipM {P : Program} {w : World} {K : PySem.W.Frag} {elts : List Expr} {kk : Nat} {tpos : Pos} {k1 k2 : Sk} {z TI TO i1 i2 : Addr} (D : Five z TI TO i1 i2) :
    Turn P w K (.Tuple elts kk tpos) (ItZ K k1 k2) [z, TI, TO, i1, i2] z (fun i h => IsZip h z TI TO .none ∧ IsTupOf2 h TI (.ref i1) (.ref i2) ∧ (∃ x y, IsTupOf2 h TO x y) ∧ k1.own i1 i h ∧ k2.own i2 i h) where
  mem := by simp
  obj := fun i h st c hc => by
    obtain ⟨hz, hTI, ⟨x, y, hTO⟩, h1, h2⟩ := st
    have e' : c = z ∨ c = TI ∨ c = TO ∨ c = i1 ∨ c = i2 := by simpa using hc
    rcases e' with q | q | q | q | q
    · rw [q]; exact ⟨_, hz, fun v q => nomatch q⟩
    · rw [q]; exact ⟨_, hTI, fun v q => nomatch q⟩
    · rw [q]; exact ⟨_, hTO, fun v q => nomatch q⟩
    · rw [q]; exact (Sk.own_obj h1)
    · rw [q]; exact (Sk.own_obj h2)
  keep := fun i h h' st k => by
    obtain ⟨hz, hTI, ⟨x, y, hTO⟩, h1, h2⟩ := st
    exact ⟨k z (by simp) _ hz, k TI (by simp) _ hTI, ⟨x, y, k TO (by simp) _ hTO⟩, Sk.own_keep h1 fun o q => k i1 (by simp) o q, Sk.own_keep h2 fun o q => k i2 (by simp) o q⟩
  item := by
    intro X hP hw hK hc i pins s σ H E I hf st hg
    subst hP hw hK
    obtain ⟨hz, hTI, ⟨x0, y0, hTO⟩, h1, h2⟩ := st
    obtain ⟨xs, ys, at1, at2, l1, l2⟩ := hg
    have hh : X.A.in1.handled = none := I.ok.hd hc
    obtain ⟨fp1, P1, St1, D1, m1, s1, o1, y1, n1⟩ := Sk.draws (A := X.A.in1) I hh at1 (hf i1 (by simp))
    obtain ⟨fp2, P2, St2, D2, m2, s2, o2, y2, n2⟩ := Sk.draws (A := X.A.in1) I hh at2 (hf i2 (by simp))
    have S : ZipSep2 z TI TO i1 i2 fp1 fp2 := ⟨D.a1.symm, D.a2.symm, D.a5, D.a6, m1, n1 z (hf z (by simp)) D.a3, n1 TO (hf TO (by simp)) D.a8, D.a7, m2, n2 z (hf z (by simp)) D.a4, n2 TO (hf TO (by simp)) D.a9, n2 i1 (hf i1 (by simp)) D.a10, n1 i2 (hf i2 (by simp)) D.a10.symm⟩
    have hzl : z < s.heap.objs.size := Heap.lt_size hz
    refine wpAny_pyNext_zipD2_item S D1 D2 hz hTI hTO (s1 i h1) (s2 i h2) l1 l2 fun u1 u2 h' tk p1 p2 z' TO' h1' h2' hT hsz hk => ?_
    refine ⟨_, rfl, wpAny_letOwnedTupleGo_zip (s := { s with heap := h', toks := tk }) z' fun h'' z'' sb => ?_⟩
    obtain ⟨x, hx, rx⟩ := y1 i u1 p1
    obtain ⟨y, hy, ry⟩ := y2 i u2 p2
    have hT2 : h''.get? s.heap.objs.size = some { cls := .type "tuple", data := .seq #[u1, u2] } := (sb.2 _ (Nat.ne_of_gt hzl)).trans hT
    have new : ObjOk X.prog X.w (upd H s.heap.objs.size (.tup [x, y])) h'' s.heap.objs.size (.tup [x, y]) :=
      ⟨by show 2 ≤ sizeLine; decide, [u1, u2], .cons rx (.cons ry .nil), ⟨_, hT2, rfl, _, rfl⟩⟩
    have I1 : Inv X pins σ (upd H s.heap.objs.size (.tup [x, y])) { s with heap := h'', toks := tk } :=
      I.turnedNew (t' := tk) (ch := [z, TI, TO, i1, i2]) (fun c o hb q => (sb.2 c (fun q' => hb (by simp [q']))).trans (hk c o (fun q' => hb (by simp [q'])) (fun q' => hb (by simp [q'])) (fun q' => hb (by simp [q'])) (fun q' => hb (by simp [q'])) q)) hf (Nat.le_refl _) new
    refine ⟨.ref s.heap.objs.size, _, I1, rfl, ⟨_, x, y, rfl, I.hok.fresh (Nat.le_refl _), rfl, fun l hl => by rw [Sk.inj I hl at1]; exact hx, fun l hl => by rw [Sk.inj I hl at2]; exact hy⟩, ⟨z'', ?_, ⟨u1, u2, ?_⟩, ?_, ?_⟩, fun c hcm => ?_⟩
    · exact (sb.2 _ D.a1.symm).trans (hk _ _ D.a1.symm D.a5 D.a6 D.a7 hTI)
    · exact (sb.2 _ D.a2.symm).trans TO'
    · exact Sk.own_keep (o1 _ _ h1') fun o q => (sb.2 _ D.a3.symm).trans q
    · exact Sk.own_keep (o2 _ _ h2') fun o q => (sb.2 _ D.a4.symm).trans q
    · have hlt : c < s.heap.objs.size := by
        have e' : c = z ∨ c = TI ∨ c = TO ∨ c = i1 ∨ c = i2 := by simpa using hcm
        rcases e' with q | q | q | q | q
        · rw [q]; exact hzl
        · rw [q]; exact Heap.lt_size hTI
        · rw [q]; exact Heap.lt_size hTO
        · rw [q]; obtain ⟨_, e1, _⟩ := (Sk.own_obj h1); exact Heap.lt_size e1
        · rw [q]; obtain ⟨_, e2, _⟩ := (Sk.own_obj h2); exact Heap.lt_size e2
      rw [upd_ne (Nat.ne_of_lt hlt)]
      exact (hf c hcm).1
  done := by
    intro X hP hw hK hc i pins s σ H E I hf st hg
    subst hP hw hK
    obtain ⟨hz, hTI, ⟨x0, y0, hTO⟩, h1, h2⟩ := st
    obtain ⟨xs, ys, at1, at2, hi⟩ := hg
    have hh : X.A.in1.handled = none := I.ok.hd hc
    obtain ⟨fp1, P1, St1, D1, m1, s1, o1, y1, n1⟩ := Sk.draws (A := X.A.in1) I hh at1 (hf i1 (by simp))
    obtain ⟨fp2, P2, St2, D2, m2, s2, o2, y2, n2⟩ := Sk.draws (A := X.A.in1) I hh at2 (hf i2 (by simp))
    have S : ZipSep2 z TI TO i1 i2 fp1 fp2 := ⟨D.a1.symm, D.a2.symm, D.a5, D.a6, m1, n1 z (hf z (by simp)) D.a3, n1 TO (hf TO (by simp)) D.a8, D.a7, m2, n2 z (hf z (by simp)) D.a4, n2 TO (hf TO (by simp)) D.a9, n2 i1 (hf i1 (by simp)) D.a10, n1 i2 (hf i2 (by simp)) D.a10.symm⟩
    exact wpAny_pyNext_zipD2_end S D1 D2 hz hTI hTO (s1 i h1) (s2 i h2) (by omega) (by omega) (by omega) fun h' tk hk => ⟨rfl, I.turnedL (t' := tk) (ch := [z, TI, TO, i1, i2]) (fun c o hb q =>
      hk c o (fun q' => hb (by simp [q'])) (fun q' => hb (by simp [q'])) (fun q' => hb (by simp [q'])) (fun q' => hb (by simp [q'])) q) hf⟩
  self := fun A i s Q E st h => wpAny_pyIter_zip st.1 h
/-- sources at the level of values -/
def SrcC (K : PySem.W.Frag) (H : Hp) (v : V) (xs : List V) (m : Tok → Sk) : Prop := (∃ a, v = .ref a ∧ m = (fun _ => .lst a) ∧ SqL K H a xs) ∨ (∃ a, v = .ref a ∧ m = (fun _ => .tup a) ∧ SqT K H a xs) ∨ ∃ z, v = .str z ∧ m = (fun t => .txt z t) ∧ xs = z.cps.toList.map fun c => V.str ⟨#[c]⟩
theorem SrcC.sk {K : PySem.W.Frag} {H : Hp} {v : V} {xs : List V} {m : Tok → Sk} (h : SrcC K H v xs m) {u : Value} (r : RelV v u) : ∃ t, (m t).at_ K H xs ∧ (m t).val = u := by
  rcases h with ⟨a, rfl, rfl, h⟩ | ⟨a, rfl, rfl, h⟩ | ⟨z, rfl, rfl, h⟩
  · cases r; exact ⟨0, h, rfl⟩
  · cases r; exact ⟨0, h, rfl⟩
  · obtain ⟨t, rfl⟩ := r; exact ⟨t, h, rfl⟩
def iZipM (K : PySem.W.Frag) (ta : TA) : TI := fun σ H R => ta σ H fun vs H1 => ∃ v1 v2 xs ys m1 m2, vs = [v1, v2] ∧ SrcC K H1 v1 xs m1 ∧ SrcC K H1 v2 ys m2 ∧ ∀ t1 t2, R (ItZ K (m1 t1) (m2 t2)) H1
section
variable {X : Cx} {e e2 : Expr} {ta : TA} {p pos tpos : Pos} {elts : List Expr} {kk : Nat}
theorem five_new (N : Nat) : Five (N + 4) (N + 2) (N + 3) N (N + 1) := ⟨by simp, by simp, by simp, by simp, by simp, by simp, by simp, by simp, by simp, by simp⟩
theorem pi_zipM (hg : Gl X "zip") (hm : X.mg "zip" = none) (ha : PA X [e, e2] ta)
    (hs : starEach [e, e2] X.env = (false, eval e X.env) :: starEach [e2] X.env := by rfl) (hpl : (backTo pos (starEach [e2] X.env)).any (·.1) = false := by rfl) :
    PI X (.Tuple elts kk tpos) (.Call (.Name "zip" p) [e, e2] [] pos) (iZipM X.K ta) := by
  refine ⟨fun pins s σ H R I h => ?_⟩
  refine PyProof.Rows.Call_ (ld_blt I hg hm PyProof.Rows.boot_zip (PyProof.Rows.callWith_type1 (thn (ha.run pos pins s σ H _ I h) fun us s1 ⟨vs, H1, I1, r1, q1⟩ => ?_) hs hpl))
  obtain ⟨v1, v2, xs, ys, m1, m2, ex, b1, b2, q1⟩ := q1
  subst ex
  cases r1 with
  | cons r rr =>
    cases rr with
    | cons r' rr =>
      cases rr
      obtain ⟨t1, a1, e1⟩ := b1.sk r
      obtain ⟨t2, a2, e2⟩ := b2.sk r'
      subst e1 e2
      obtain ⟨Hc1, B1, c1⟩ := Sk.begins I1 a1
      obtain ⟨Hc2, B2, c2⟩ := Sk.begins I1 a2
      have fresh5 : ∀ c, c ∈ [s1.heap.objs.size + 4, s1.heap.objs.size + 2, s1.heap.objs.size + 3, s1.heap.objs.size, s1.heap.objs.size + 1] → FpOk X pins H1 c := fun c hcm => by
        have e' : c = s1.heap.objs.size + 4 ∨ c = s1.heap.objs.size + 2 ∨ c = s1.heap.objs.size + 3 ∨ c = s1.heap.objs.size ∨ c = s1.heap.objs.size + 1 := by simpa using hcm
        have hle : s1.heap.objs.size ≤ c := by
          rcases e' with z | z | z | z | z
          · rw [z]; exact Nat.le_add_right _ _
          · rw [z]; exact Nat.le_add_right _ _
          · rw [z]; exact Nat.le_add_right _ _
          · rw [z]; exact Nat.le_refl _
          · rw [z]; exact Nat.le_add_right _ _
        exact I1.fpOk hle (I1.hok.fresh hle)
      refine zip_begins2 B1 B2 c1 c2 fun h' hz hTI hTO h1 h2 hsz hk => wpAny_pyIter_zip hz ?_
      have I2 : Inv X pins σ H1 { s1 with heap := h' } := I1.kept (t' := s1.toks) hk
      exact ⟨s1.heap.objs.size + 4, [s1.heap.objs.size + 4, s1.heap.objs.size + 2, s1.heap.objs.size + 3, s1.heap.objs.size, s1.heap.objs.size + 1], _, _, H1, rfl, I2, turn_zipM (five_new _), ⟨hz, hTI, ⟨_, _, hTO⟩, (m1 t1).first_own h1, (m2 t2).first_own h2⟩, fresh5, q1 t1 t2⟩
end

/-! ### zip and enumerate in the small semantics -/
/-- a source: its items by the state -/
structure SrcR (K : PySem.W.Frag) (Z : Hp) (ι : List Addr) (v : V) (m : Tok → Sk) (ds : List D) (G : Sto → Prop) : Prop where
  src : ∀ st H Z1 ι1, Ext Z ι Z1 ι1 → Rel K st H Z1 ι1 → G st → ∃ xs, SrcC K H v xs m
  at_ : ∀ st H Z1 ι1 t, Ext Z ι Z1 ι1 → Rel K st H Z1 ι1 → G st → ∃ xs, (m t).at_ K H xs ∧ RpL K Z1 ι1 xs ds
theorem src_of {K : PySem.W.Frag} {Z H0 : Hp} {ι : List Addr} {v : V} {d : D} {st0 : Sto} {src : Src} (h : Rp K Z ι v d) (r0 : Rel K st0 H0 Z ι) (hs : seqOf st0 d = some src) : src.2 st0 ∧ ∃ m, SrcR K Z ι v m src.1 src.2 := by
  cases h with
  | lst h q => cases hs; exact ⟨trivial, fun _ => .lst _, fun st H Z1 ι1 g r _ => ⟨_, .inl ⟨_, rfl, rfl, SqL.of (r.zin _ _ (g.z _ _ h))⟩⟩, fun st H Z1 ι1 t g r _ => ⟨_, SqL.of (r.zin _ _ (g.z _ _ h)), q.mono g⟩⟩
  | tup h q => cases hs; exact ⟨trivial, fun _ => .tup _, fun st H Z1 ι1 g r _ => ⟨_, .inr (.inl ⟨_, rfl, rfl, same_sqt r.zin (same_sqtN g.zs h)⟩)⟩, fun st H Z1 ι1 t g r _ => ⟨_, same_sqt r.zin (same_sqtN g.zs h), q.mono g⟩⟩
  | str z =>
    cases hs
    refine ⟨trivial, fun t => .txt z t, fun st H Z1 ι1 g r _ => ⟨_, .inr (.inr ⟨z, rfl, rfl, rfl⟩)⟩, fun st H Z1 ι1 t g r _ => ⟨_, rfl, ?_⟩⟩
    dsimp only [signs]
    induction z.cps.toList with
    | nil => exact .nil
    | cons c l ih => exact .cons (.str _) ih
  | @ref n a h =>
    unfold seqOf at hs
    dsimp only at hs
    split at hs
    · rename_i l hl
      cases hs
      refine ⟨hl, fun _ => .lst a, fun st H Z1 ι1 g r hG => ?_, fun st H Z1 ι1 t g r hG => ?_⟩
      · obtain ⟨_, xs, hH, hq⟩ := r.ob n _ a hG (g.get h)
        exact ⟨xs, .inl ⟨a, rfl, rfl, SqL.of hH⟩⟩
      · obtain ⟨_, xs, hH, hq⟩ := r.ob n _ a hG (g.get h)
        exact ⟨xs, SqL.of hH, hq⟩
    · cases hs
  | _ => cases hs
def zipD (xs ys : List D) : List D := List.zipWith (fun a b => D.tup [a, b]) xs ys
def enumD (xs : List D) : List D := (List.range xs.length).zipWith (fun i x => D.tup [.int ((i : Nat) : Int), x]) xs
def zip? (s : Sto) : List D → Option Src
  | [x, y] => match seqOf s x, seqOf s y with
    | some a, some b => some (zipD a.1 b.1, fun s => a.2 s ∧ b.2 s)
    | _, _ => none
  | _ => none
def enum? (s : Sto) : List D → Option Src
  | [x] => (seqOf s x).map fun a => (enumD a.1, a.2)
  | _ => none
def miZip (a : MA) : MI := fun ρ s => bnd (a ρ s) fun ds s => ofO (zip? s ds) s
def miEnum (a : MA) : MI := fun ρ s => bnd (a ρ s) fun ds s => ofO (enum? s ds) s
theorem zipD_get {xs ys : List D} {i : Nat} {d : D} (h : (zipD xs ys)[i]? = some d) : ∃ a b, xs[i]? = some a ∧ ys[i]? = some b ∧ d = .tup [a, b] := by
  unfold zipD at h
  rw [List.getElem?_zipWith] at h
  cases e1 : xs[i]? with
  | none => rw [e1] at h; cases h
  | some a => cases e2 : ys[i]? with
    | none => rw [e1, e2] at h; cases h
    | some b => rw [e1, e2] at h; cases h; exact ⟨a, b, rfl, rfl, rfl⟩
theorem zipD_len (xs ys : List D) : (zipD xs ys).length = min xs.length ys.length := by simp [zipD]
section
variable {K : PySem.W.Frag} {Z : Hp} {ι : List Addr}
theorem walk_zipD {v u : V} {m1 m2 : Tok → Sk} {t1 t2 : Tok} {ds es : List D} {G1 G2 : Sto → Prop} (h1 : SrcR K Z ι v m1 ds G1) (h2 : SrcR K Z ι u m2 es G2) : WalkM K Z ι (ItZ K (m1 t1) (m2 t2)) (zipD ds es, fun s => G1 s ∧ G2 s) := fun i st H Z1 ι1 g r hG => by
  obtain ⟨xs, a1, q1⟩ := h1.at_ st H Z1 ι1 t1 g r hG.1
  obtain ⟨ys, a2, q2⟩ := h2.at_ st H Z1 ι1 t2 g r hG.2
  refine ⟨fun d hd => ?_, fun hi => ⟨xs, ys, a1, a2, by rw [show (zipD ds es, fun s => G1 s ∧ G2 s).1.length = (zipD ds es).length from rfl, zipD_len] at hi; rw [q1.length, q2.length]; exact hi⟩⟩
  obtain ⟨a, b, ha, hb, rfl⟩ := zipD_get hd
  obtain ⟨v, hv, rv⟩ := q1.get ha
  obtain ⟨u, hu, ru⟩ := q2.get hb
  refine ⟨⟨xs, ys, a1, a2, (List.getElem?_eq_some_iff.mp hv).1, (List.getElem?_eq_some_iff.mp hu).1⟩, fun x H' y => ?_⟩
  obtain ⟨T, x1, y1, rfl, hT, rfl, e1, e2⟩ := y
  have e1 := e1 xs a1
  have e2 := e2 ys a2
  rw [hv] at e1
  rw [hu] at e2
  cases e1
  cases e2
  obtain ⟨r2, g2⟩ := r.zone (o := .tup [v, u]) hT
  exact ⟨_, g2, r2, .tup (SqT.of upd_same) (.cons (rv.mono g2.toExt) (.cons (ru.mono g2.toExt) .nil))⟩
end
section
variable {X : Cx} {W : WX} {e e2 : Expr} {ms : MA} {p pos tpos : Pos} {elts : List Expr} {kk : Nat}
theorem si_zip (hm : X.mg "zip" = none) (ha : SdA X W [e, e2] ms) (hg : Gl X "zip" := by rfl) (hs : starEach [e, e2] X.env = (false, eval e X.env) :: starEach [e2] X.env := by rfl) (hpl : (backTo pos (starEach [e2] X.env)).any (·.1) = false := by rfl) :
    SdI X W (.Tuple elts kk tpos) (.Call (.Name "zip" p) [e, e2] [] pos) (miZip ms) := by
  refine pi_imp (pi_zipM hg hm ha hs hpl) fun σ H R ⟨ρ, st, Z, ι, e, r, q⟩ => ?_
  refine rdG.mono (kont e r q) fun vs H1 ⟨st1, Z1, ι1, ds, g1, e1, r1, hv, q1⟩ => ?_
  cases hv with
  | nil => exact q1.elim
  | @cons v1 _ d1 _ h1 h2 => cases h2 with
    | nil => exact q1.elim
    | @cons v2 _ d2 _ h2 h3 => cases h3 with
      | cons _ _ => exact q1.elim
      | nil =>
        cases hx : seqOf st1 d1 with
        | none => simp [zip?, hx] at q1; exact q1.elim
        | some xs => cases hy : seqOf st1 d2 with
          | none => simp [zip?, hx, hy] at q1; exact q1.elim
          | some ys =>
            simp only [zip?, hx, hy, ofO_some] at q1
            obtain ⟨g1', m1, s1⟩ := src_of h1 r1 hx
            obtain ⟨g2', m2, s2⟩ := src_of h2 r1 hy
            obtain ⟨vs1, c1⟩ := s1.src st1 H1 Z1 ι1 (Ext.refl _ _) r1 g1'
            obtain ⟨vs2, c2⟩ := s2.src st1 H1 Z1 ι1 (Ext.refl _ _) r1 g2'
            exact ⟨v1, v2, vs1, vs2, m1, m2, rfl, c1, c2, fun t1 t2 => q1 _ H1 Z1 ι1 (Grow.refl _ _ _) r1 (walk_zipD s1 s2)⟩
/-- what changes no more -/
def mFrz (a : ME) : ME := fun ρ s => bnd (a ρ s) fun d s => match d with
  | .ref n => match s[n]? with
    | some (.lst l) => some (.ok (.lst l) (s.set n .gone))
    | _ => none
  | _ => none
end
end MP


set_option Elab.async false
set_option linter.all false
set_option maxRecDepth 100000
set_option maxHeartbeats 4000000
/-! MP7: operators, subscripts, slices, built-in functions and methods -/
namespace MP
variable [Wd]
open PySem L2

/-! ### plain data -/
mutual
def D.py : D → Option PyData
  | .non => some .none
  | .bl b => some (.bool b)
  | .int i => some (.int i)
  | .str s => some (.str s)
  | .lst l => (pyL l).map .list
  | .tup l => (pyL l).map .tuple
  | _ => none
def pyL : List D → Option (List PyData)
  | [] => some []
  | d :: ds => match d.py, pyL ds with
    | some p, some ps => some (p :: ps)
    | _, _ => none
end
/-- a box list is read, too -/
def pyS (s : Sto) : D → Option PyData
  | .ref n => match s[n]? with
    | some (.lst l) => (pyL l).map .list
    | _ => none
  | d => d.py
section
variable {K : PySem.W.Frag} {Z H : Hp} {ι : List Addr}
theorem pyL_cons {d : D} {ds : List D} {ps : List PyData} (h : pyL (d :: ds) = some ps) : ∃ p qs, d.py = some p ∧ pyL ds = some qs ∧ ps = p :: qs := by
  unfold pyL at h
  cases h1 : d.py with
  | none => rw [h1] at h; cases h
  | some p => cases h2 : pyL ds with
    | none => rw [h1, h2] at h; cases h
    | some qs => rw [h1, h2] at h; cases h; exact ⟨p, qs, rfl, rfl, rfl⟩
mutual
theorem dp_of (e : Same Z H) : ∀ {v : V} {d : D} {p : PyData}, Rp K Z ι v d → d.py = some p → Dp K H v p
  | _, _, _, .non, h => by cases h; exact .non
  | _, _, _, .bl b, h => by cases h; exact .bl b
  | _, _, _, .int i, h => by cases h; exact .int i
  | _, _, _, .str s, h => by cases h; exact .str s
  | _, .lst ds, _, .lst hz r, h => by
    unfold D.py at h
    cases h2 : pyL ds with
    | none => rw [h2] at h; cases h
    | some qs => rw [h2] at h; cases h; exact .lst (SqL.of (e _ _ hz)) (dpl_of e r h2)
  | _, .tup ds, _, .tup hz r, h => by
    unfold D.py at h
    cases h2 : pyL ds with
    | none => rw [h2] at h; cases h
    | some qs => rw [h2] at h; cases h; exact .tup (same_sqt e hz) (dpl_of e r h2)
  | _, _, _, .dct _ _ _, h => by unfold D.py at h; cases h
  | _, _, _, .ref _, h => by unfold D.py at h; cases h
  | _, _, _, .scr _, h => by unfold D.py at h; cases h
theorem dpl_of (e : Same Z H) : ∀ {vs : List V} {ds : List D} {ps : List PyData}, RpL K Z ι vs ds → pyL ds = some ps → DpAll K H vs ps
  | _, _, _, .nil, h => by unfold pyL at h; cases h; exact .nil
  | _, _, _, .cons r rs, h => by
    obtain ⟨p, qs, h1, h2, rfl⟩ := pyL_cons h
    exact .cons (dp_of e r h1) (dpl_of e rs h2)
end
theorem dpS_of {st : Sto} (r : Rel K st H Z ι) {v : V} {d : D} {p : PyData} (h : Rp K Z ι v d) (hp : pyS st d = some p) : Dp K H v p := by
  cases h with
  | @ref n a hn =>
    unfold pyS at hp
    dsimp only at hp
    split at hp
    · rename_i l hl
      obtain ⟨_, xs, hH, hr⟩ := r.ob n _ a hl hn
      cases h2 : pyL l with
      | none => rw [h2] at hp; cases hp
      | some qs => rw [h2] at hp; cases hp; exact .lst (SqL.of hH) (dpl_of r.zin hr h2)
    · cases hp
  | non => exact dp_of (ι := ι) r.zin .non hp
  | bl b => exact dp_of (ι := ι) r.zin (.bl b) hp
  | int i => exact dp_of (ι := ι) r.zin (.int i) hp
  | str s => exact dp_of (ι := ι) r.zin (.str s) hp
  | lst h q => exact dp_of r.zin (.lst h q) hp
  | tup h q => exact dp_of r.zin (.tup h q) hp
  | dct a b c => exact dp_of (ι := ι) r.zin (.dct a b c) hp
  | scr a => exact dp_of (ι := ι) r.zin (.scr a) hp
end
def eqD (st : Sto) (x y : D) : Option Bool := match pyS st x, pyS st y with
  | some a, some b => if SeqAt.shaped a && SeqAt.shaped b then some (PyData.eqv a b) else none
  | _, _ => none
def fEq (st : Sto) (x y : D) : Option D := (eqD st x y).map .bl
def fNe (st : Sto) (x y : D) : Option D := (eqD st x y).map fun b => .bl !b
section
variable {X : Cx}
theorem eqD_inv {st : Sto} {x y : D} {b : Bool} (h : eqD st x y = some b) : ∃ p q, pyS st x = some p ∧ pyS st y = some q ∧ SeqAt.shaped p = true ∧ SeqAt.shaped q = true ∧ b = PyData.eqv p q := by
  unfold eqD at h
  split at h
  · rename_i p q h1 h2
    split at h
    · rename_i hs
      cases h
      rw [Bool.and_eq_true] at hs
      exact ⟨p, q, h1, h2, hs.1, hs.2, rfl⟩
    · cases h
  · cases h
theorem os_eq {K : PySem.W.Frag} : OpS K fEq (rEqD K) := fun st x y d v u H Z ι Q hf r hx hy k => by
  unfold fEq at hf
  cases hq : eqD st x y with
  | none => rw [hq] at hf; cases hf
  | some b =>
    rw [hq] at hf
    cases hf
    obtain ⟨p, q, h1, h2, s1, s2, rfl⟩ := eqD_inv hq
    exact ⟨p, q, dpS_of r hx h1, dpS_of r hy h2, s1, s2, k _ H Z (Grow.refl _ _ _) r (.bl _)⟩
theorem os_ne {K : PySem.W.Frag} : OpS K fNe (rNeD K) := fun st x y d v u H Z ι Q hf r hx hy k => by
  unfold fNe at hf
  cases hq : eqD st x y with
  | none => rw [hq] at hf; cases hf
  | some b =>
    rw [hq] at hf
    cases hf
    obtain ⟨p, q, h1, h2, s1, s2, rfl⟩ := eqD_inv hq
    exact ⟨p, q, dpS_of r hx h1, dpS_of r hy h2, s1, s2, k _ H Z (Grow.refl _ _ _) r (.bl _)⟩
/-! ### numbers -/
def fI (g : Int → Int → D) (c : Int → Int → Bool) : Sto → D → D → Option D := fun _ x y => match x, y with
  | .int i, .int j => if c i j = true then some (g i j) else none
  | _, _ => none
theorem os_int {K : PySem.W.Frag} {g : Int → Int → D} {gv : Int → Int → V} {c : Int → Int → Bool} {C : Int → Int → Prop} (hc : ∀ i j, c i j = true → C i j) (hg : ∀ Z ι i j, Rp K Z ι (gv i j) (g i j)) : OpS K (fI g c) (rI C gv) := fun st x y d v u H Z ι Q hf r hx hy k => by
  unfold fI at hf
  cases hx with
  | int i => cases hy with
    | int j =>
      dsimp only at hf
      split at hf
      · rename_i h
        cases hf
        exact ⟨i, j, rfl, rfl, hc i j h, k _ H Z (Grow.refl _ _ _) r (hg Z ι i j)⟩
      · cases hf
    | _ => cases hf
  | _ => cases hf
theorem os_int0 {K : PySem.W.Frag} {g : Int → Int → D} {gv : Int → Int → V} (hg : ∀ Z ι i j, Rp K Z ι (gv i j) (g i j)) : OpS K (fI g fun _ _ => true) (rI0 gv) := fun st x y d v u H Z ι Q hf r hx hy k => by
  obtain ⟨i, j, e1, e2, _, q⟩ := os_int (C := fun _ _ => True) (fun _ _ _ => trivial) hg st x y d v u H Z ι Q hf r hx hy k
  exact ⟨i, j, e1, e2, q⟩
def cMul (i j : Int) : Bool := (decide (-(2 ^ 64) < i) && decide (i < 2 ^ 64)) || (decide (-(2 ^ 64) < j) && decide (j < 2 ^ 64))
def cPow (i j : Int) : Bool := decide (0 ≤ j) && decide (j ≤ 1000000) && decide (i.natAbs < 2 ^ 64)
def cDiv (i j : Int) : Bool := decide (0 < j) && decide (j < 1073741824)
def fSub := fI (fun i j => .int (i - j)) fun _ _ => true
def fMul := fI (fun i j => .int (i * j)) cMul
def fDiv := fI (fun i j => .int (i / j)) cDiv
def fMod := fI (fun i j => .int (i % j)) fun _ j => decide (0 < j)
def fPow := fI (fun i j => .int (i ^ j.toNat)) cPow
def fLt := fI (fun i j => .bl (decide (i < j))) fun _ _ => true
def fLe := fI (fun i j => .bl (decide (i ≤ j))) fun _ _ => true
def fGt := fI (fun i j => .bl (decide (j < i))) fun _ _ => true
def fGe := fI (fun i j => .bl (decide (j ≤ i))) fun _ _ => true
theorem os_mul {K : PySem.W.Frag} : OpS K fMul (rI CMul fun i j => .int (i * j)) := os_int (fun i j h => by simpa [cMul, CMul] using h) fun _ _ _ _ => .int _
theorem os_div {K : PySem.W.Frag} : OpS K fDiv (rI CDiv fun i j => .int (i / j)) := os_int (fun i j h => by simpa [cDiv, CDiv] using h) fun _ _ _ _ => .int _
theorem os_mod {K : PySem.W.Frag} : OpS K fMod (rI (fun _ j => 0 < j) fun i j => .int (i % j)) := os_int (fun i j h => by simpa using h) fun _ _ _ _ => .int _
theorem os_pow {K : PySem.W.Frag} : OpS K fPow (rI CPow fun i j => .int (i ^ j.toNat)) := os_int (fun i j h => by simpa [cPow, CPow, and_assoc] using h) fun _ _ _ _ => .int _
theorem os_lt {K : PySem.W.Frag} : OpS K fLt (rI0 fun i j => .bl (decide (i < j))) := os_int0 fun _ _ _ _ => .bl _
theorem os_gt {K : PySem.W.Frag} : OpS K fGt (rI0 fun i j => .bl (decide (j < i))) := os_int0 fun _ _ _ _ => .bl _
def fNeg : Sto → D → Option D := fun _ x => match x with
  | .int i => some (.int (-i))
  | _ => none
/-! ### + -/
/-- the items of a list -/
def lst? (s : Sto) : D → Option (List D)
  | .lst l => some l
  | .ref n => match s[n]? with
    | some (.lst l) => some l
    | _ => none
  | _ => none
theorem lst_sq {K : PySem.W.Frag} {st : Sto} {H Z : Hp} {ι : List Addr} {v : V} {d : D} {ds : List D} (r : Rel K st H Z ι) (h : Rp K Z ι v d) (hi : lst? st d = some ds) : ∃ a xs, v = .ref a ∧ H a = some (.lst xs) ∧ RpL K Z ι xs ds := by
  cases h with
  | lst h q => cases hi; exact ⟨_, _, rfl, r.zin _ _ h, q⟩
  | @ref n a h =>
    unfold lst? at hi
    dsimp only at hi
    split at hi
    · rename_i l hl
      cases hi
      obtain ⟨_, xs, h2, h3⟩ := r.ob n _ a hl h
      exact ⟨a, xs, rfl, h2, h3⟩
    · cases hi
  | _ => cases hi
def fAdd (s : Sto) (x y : D) : Option D := match x, y with
  | .int i, .int j => some (.int (i + j))
  | .str a, .str b => if a.length + b.length ≤ 16777216 then some (.str (a ++ b)) else none
  | .tup a, .tup b => if a.length + b.length ≤ 16777216 then some (.tup (a ++ b)) else none
  | x, y => match lst? s x, lst? s y with
    | some a, some b => if a.length + b.length ≤ 16777216 then some (.lst (a ++ b)) else none
    | _, _ => none
def rAddM (K : PySem.W.Frag) : R2 := fun x y H Q => (rI0 fun i j => .int (i + j)) x y H Q ∨ (∃ i j, x = .str i ∧ y = .str j ∧ i.length + j.length ≤ sizeLine ∧ Q (.str (i ++ j)) H) ∨ rCatA K x y H Q ∨ rCat x y H Q
theorem op_addM : OpR X (binaryOp .Add) (rAddM X.K) := op_add.or (op_add_str.or (op_catA.or op_cat))
theorem add_lists {K : PySem.W.Frag} {st : Sto} {H Z : Hp} {ι : List Addr} {v u : V} {x y d : D} {Q : VK} (r : Rel K st H Z ι) (hx : Rp K Z ι v x) (hy : Rp K Z ι u y)
    (hf : (match lst? st x, lst? st y with
    | some a, some b => if a.length + b.length ≤ 16777216 then some (D.lst (a ++ b)) else none
    | _, _ => none) = some d) (k : ∀ z H' Z', Grow Z ι H Z' ι H' → Rel K st H' Z' ι → Rp K Z' ι z d → Q z H') : rCat v u H Q := by
  cases h1 : lst? st x with
  | none => rw [h1] at hf; cases hf
  | some a => cases h2 : lst? st y with
    | none => rw [h1, h2] at hf; cases hf
    | some b =>
      rw [h1, h2] at hf
      dsimp only at hf
      split at hf
      · rename_i hl
        cases hf
        obtain ⟨p, xs, rfl, hp, qp⟩ := lst_sq r hx h1
        obtain ⟨q, ys, rfl, hq, qq⟩ := lst_sq r hy h2
        refine ⟨p, q, xs, ys, rfl, rfl, hp, hq, by rw [qp.length, qq.length, ← sline]; exact hl, fun n hn => ?_⟩
        obtain ⟨r2, g2⟩ := r.zone (o := .lst (xs ++ ys)) hn
        exact k _ _ _ g2 r2 (.lst upd_same ((qp.append qq).mono g2.toExt))
      · cases hf
theorem os_add {K : PySem.W.Frag} : OpS K fAdd (rAddM K) := fun st x y d v u H Z ι Q hf r hx hy k => by
  cases hx with
  | int i => cases hy with
    | int j => cases hf; exact .inl ⟨i, j, rfl, rfl, k _ H Z (Grow.refl _ _ _) r (.int _)⟩
    | _ => cases hf
  | str a => cases hy with
    | str b =>
      unfold fAdd at hf
      dsimp only at hf
      split at hf
      · rename_i hl
        cases hf
        exact .inr (.inl ⟨a, b, rfl, rfl, by rw [← sline]; exact hl, k _ H Z (Grow.refl _ _ _) r (.str _)⟩)
      · cases hf
    | _ => cases hf
  | @tup a xs ds h q => cases hy with
    | @tup b ys es h' q' =>
      unfold fAdd at hf
      dsimp only at hf
      split at hf
      · rename_i hl
        cases hf
        refine .inr (.inr (.inl ⟨a, b, xs, ys, rfl, rfl, same_sqt r.zin h, same_sqt r.zin h', by rw [q.length, q'.length, ← sline]; exact hl, fun e => ?_, fun e1 e2 => ?_, fun e1 e2 p hp => ?_⟩))
        · subst e
          cases q
          exact k _ H Z (Grow.refl _ _ _) r (.tup h' q')
        · subst e2
          cases q'
          rw [List.append_nil] at k
          exact k _ H Z (Grow.refl _ _ _) r (.tup h q)
        · obtain ⟨r2, g2⟩ := r.zone (o := .tup (xs ++ ys)) hp
          exact k _ _ _ g2 r2 (.tup (SqT.of upd_same) ((q.append q').mono g2.toExt))
      · cases hf
    | _ => cases hf
  | lst h q => exact .inr (.inr (.inr (add_lists r (.lst h q) hy (by cases hy <;> exact hf) k)))
  | ref h => exact .inr (.inr (.inr (add_lists r (.ref h) hy (by cases hy <;> exact hf) k)))
  | non => cases hf
  | bl b => cases hf
  | dct _ _ _ => cases hf
  | scr _ => cases hf
/-! ### subscripts -/
def fIx (s : Sto) (x y : D) : Option D := match y with
  | .int i => match x with
    | .tup l => atI l i
    | .str z => if z.length ≤ 16777216 then (atI z.cps.toList i).map fun c => .str ⟨#[c]⟩ else none
    | x => (lst? s x).bind fun l => atI l i
  | _ => none
theorem rpl_at {K : PySem.W.Frag} {Z : Hp} {ι : List Addr} {xs : List V} {ds : List D} {i : Int} {d : D} (q : RpL K Z ι xs ds) (h : atI ds i = some d) : ∃ v, atI xs i = some v ∧ Rp K Z ι v d := by
  unfold atI at h ⊢
  rw [q.length]
  cases e : ixN ds.length i with
  | none => rw [e] at h; cases h
  | some j =>
    rw [e] at h
    exact q.get h
theorem os_ix {K : PySem.W.Frag} : OpS K fIx (rIx K) := fun st x y d v u H Z ι Q hf r hx hy k => by
  cases hy with
  | int i =>
    have lists : ∀ {x : D} {v : V}, Rp K Z ι v x → ((lst? st x).bind fun l => atI l i) = some d → rIxL K v (.int i) H Q := fun {x v} hx hf => by
      cases h1 : lst? st x with
      | none => rw [h1] at hf; cases hf
      | some l =>
        rw [h1] at hf
        obtain ⟨p, xs, rfl, hp, qp⟩ := lst_sq r hx h1
        obtain ⟨w, hw, rw'⟩ := rpl_at qp (show atI l i = some d from hf)
        exact ⟨p, xs, i, w, rfl, rfl, SqL.of hp, hw, k _ H Z (Grow.refl _ _ _) r rw'⟩
    cases hx with
    | @tup a xs ds h q =>
      obtain ⟨w, hw, rw'⟩ := rpl_at q (show atI ds i = some d from hf)
      exact .inr (.inl ⟨a, xs, i, w, rfl, rfl, same_sqt r.zin h, hw, k _ H Z (Grow.refl _ _ _) r rw'⟩)
    | str z =>
      unfold fIx at hf
      dsimp only at hf
      split at hf
      · rename_i hl
        cases hc : atI z.cps.toList i with
        | none => rw [hc] at hf; cases hf
        | some c => rw [hc] at hf; cases hf; exact .inr (.inr ⟨z, i, c, rfl, rfl, by rw [← sline]; exact hl, hc, k _ H Z (Grow.refl _ _ _) r (.str _)⟩)
      · cases hf
    | lst h q => exact .inl (lists (.lst h q) hf)
    | ref h => exact .inl (lists (.ref h) hf)
    | non => cases hf
    | bl b => cases hf
    | int j => cases hf
    | dct _ _ _ => cases hf
    | scr _ => cases hf
  | _ => cases hf
end
end MP


set_option Elab.async false
set_option linter.all false
set_option maxRecDepth 100000
set_option maxHeartbeats 4000000
/-! MP8: slices, in, built-in functions, methods of lists -/
namespace MP
variable [Wd]
open PySem L2

/-! ### slices -/
abbrev MO := Env → Sto → RO (Option Int)
abbrev rdO (K : PySem.W.Frag) (W : WX) (m : MO) : TO := rdG K W (fun _ _ b a => b = a) m
abbrev SdO (X : Cx) (W : WX) (e : Option Expr) (m : MO) : Prop := PO X e (rdO X.K W m)
theorem po_imp {X : Cx} {e : Option Expr} {t t' : TO} (h : PO X e t) (f : ∀ σ H Q, t' σ H Q → t σ H Q) : PO X e t' := ⟨fun pins s σ H Q I q => h.run pins s σ H Q I (f σ H Q q)⟩
def moN : MO := fun _ s => some (.ok none s)
def moS (a : ME) : MO := fun ρ s => bnd (a ρ s) fun d s => match d with
  | .int i => some (.ok (some i) s)
  | _ => none
def cutD (ds : List D) (lo hi : Option Int) : List D := (ds.drop (HT.sIx ds.length 0 lo)).take (HT.sIx ds.length ds.length hi - HT.sIx ds.length 0 lo)
def fSl (s : Sto) (x : D) (lo hi : Option Int) : Option D := match x with
  | .tup l => some (.tup (cutD l lo hi))
  | .str z => if z.length ≤ 16777216 then some (.str (cutS z lo hi)) else none
  | x => (lst? s x).map fun l => .lst (cutD l lo hi)
def mSl (a : ME) (lo hi : MO) : ME := fun ρ s => bnd (a ρ s) fun x s => bnd (lo ρ s) fun l s => bnd (hi ρ s) fun h s => ofO (fSl s x l h) s
theorem cut_rp {K : PySem.W.Frag} {Z : Hp} {ι : List Addr} {xs : List V} {ds : List D} {lo hi : Option Int} (q : RpL K Z ι xs ds) : RpL K Z ι (cutV xs lo hi) (cutD ds lo hi) := by
  unfold cutV cutD
  rw [q.length]
  exact (q.drop _).take _
section
variable {X : Cx} {W : WX} {e : Expr} {lo hi : Option Expr} {pos p2 : Pos} {me : ME} {ml mh : MO}
theorem so_none : SdO X W none moN := po_imp po_none fun σ H Q ⟨ρ, st, Z, ι, e, r, p⟩ => p none H Z ι (Grow.refl _ _ _) r rfl
theorem so_some (h : Sd X W e me) : SdO X W (some e) (moS me) := by
  refine po_imp (po_some h) fun σ H Q ⟨ρ, st, Z, ι, e, r, p⟩ => ?_
  refine rdG.mono (kont e r p) fun v H1 ⟨st1, Z1, ι1, x, g1, e1, r1, rx, p1⟩ => ?_
  cases rx with
  | int i => exact ⟨i, rfl, p1 _ H1 Z1 ι1 (Grow.refl _ _ _) r1 rfl⟩
  | _ => exact p1.elim
def rSlM (K : PySem.W.Frag) : V → Option Int → Option Int → Hp → VK → Prop := fun x lo hi H Q => rSlL K x lo hi H Q ∨ rSlA K x lo hi H Q ∨ rSlS x lo hi H Q
theorem sl_M : SlR X (rSlM X.K) := SlR.or sl_list (SlR.or sl_tupA sl_str)
theorem cut_whole {ds : List D} {lo hi : Option Int} (h : HT.sIx ds.length 0 lo = 0 ∧ HT.sIx ds.length ds.length hi = ds.length) : cutD ds lo hi = ds := by
  unfold cutD
  rw [h.1, h.2]
  simp
theorem sl_sound {K : PySem.W.Frag} {st : Sto} {x d : D} {v : V} {H Z : Hp} {ι : List Addr} {Q : VK} {lo hi : Option Int} (hf : fSl st x lo hi = some d) (r : Rel K st H Z ι) (hx : Rp K Z ι v x)
    (k : ∀ z H' Z', Grow Z ι H Z' ι H' → Rel K st H' Z' ι → Rp K Z' ι z d → Q z H') : rSlM K v lo hi H Q := by
  have lists : ∀ {x : D} {v : V}, Rp K Z ι v x → ((lst? st x).map fun l => D.lst (cutD l lo hi)) = some d → rSlL K v lo hi H Q := fun {x v} hx hf => by
    cases h1 : lst? st x with
    | none => rw [h1] at hf; cases hf
    | some l =>
      rw [h1] at hf
      cases hf
      obtain ⟨p, xs, rfl, hp, qp⟩ := lst_sq r hx h1
      refine ⟨p, xs, rfl, SqL.of hp, fun n hn => ?_⟩
      obtain ⟨r2, g2⟩ := r.zone (o := .lst (cutV xs lo hi)) hn
      exact k _ _ _ g2 r2 (.lst upd_same ((cut_rp qp).mono g2.toExt))
  cases hx with
  | @tup a xs ds h q =>
    cases hf
    refine .inr (.inl ⟨a, xs, rfl, same_sqt r.zin h, fun hw => ?_, fun hw n hn => ?_⟩)
    · rw [q.length] at hw
      rw [cut_whole hw] at k
      exact k _ H Z (Grow.refl _ _ _) r (.tup h q)
    · obtain ⟨r2, g2⟩ := r.zone (o := .tup (cutV xs lo hi)) hn
      exact k _ _ _ g2 r2 (.tup (SqT.of upd_same) ((cut_rp q).mono g2.toExt))
  | str z =>
    unfold fSl at hf
    dsimp only at hf
    split at hf
    · rename_i hl
      cases hf
      exact .inr (.inr ⟨z, rfl, by rw [← sline]; exact hl, k _ H Z (Grow.refl _ _ _) r (.str _)⟩)
    · cases hf
  | lst h q => exact .inl (lists (.lst h q) hf)
  | ref h => exact .inl (lists (.ref h) hf)
  | non => cases hf
  | bl b => cases hf
  | int j => cases hf
  | dct _ _ _ => cases hf
  | scr _ => cases hf
theorem sd_slice (he : Sd X W e me) (hl : SdO X W lo ml) (hh : SdO X W hi mh) : Sd X W (.Subscript e (.Slice lo hi none p2) pos) (mSl me ml mh) := by
  refine pe_imp (pe_slice sl_M he hl hh) fun σ H Q ⟨ρ, st, Z, ι, e, r, p⟩ => ?_
  refine rdG.mono (kont e r p) fun v H1 ⟨st1, Z1, ι1, x, g1, e1, r1, rx, p1⟩ => ?_
  refine rdG.mono (kont e1 r1 p1) fun l H2 ⟨st2, Z2, ι2, l', g2, e2, r2, hl, p2⟩ => ?_
  refine rdG.mono (kont e2 r2 p2) fun h H3 ⟨st3, Z3, ι3, h', g3, e3, r3, hh, p3⟩ => ?_
  cases (show l = l' from hl)
  cases (show h = h' from hh)
  cases hf : fSl st3 x l h with
  | none => rw [hf] at p3; exact p3.elim
  | some d => rw [hf] at p3; exact sl_sound hf r3 ((rx.mono g2.toExt).mono g3.toExt) fun z H' Z' g r q => p3 z H' Z' ι3 g r q
end
/-! ### in -/
def flatD : D → Bool
  | .non => true
  | .bl _ => true
  | .int _ => true
  | .str _ => true
  | _ => false
def eqF : D → D → Bool
  | .non, .non => true
  | .bl a, .bl b => a == b
  | .bl a, .int b => (if a then 1 else 0) == b
  | .int a, .bl b => a == (if b then 1 else 0)
  | .int a, .int b => a == b
  | .str a, .str b => a == b
  | _, _ => false
def inF (x : D) (ds : List D) : Bool := ds.any fun y => eqF y x
def in? (s : Sto) (x y : D) : Option Bool := match y with
  | .str z => match x with
    | .str w => match w.cps.toList with
      | [c] => some (decide (c ∈ z.cps.toList))
      | _ => none
    | _ => none
  | y => match items? s y with
    | some ds => if flatD x && ds.all flatD then some (inF x ds) else none
    | none => none
def fIn (s : Sto) (x y : D) : Option D := (in? s x y).map .bl
def fNotIn (s : Sto) (x y : D) : Option D := (in? s x y).map fun b => .bl !b
section
variable {K : PySem.W.Frag} {Z : Hp} {ι : List Addr}
theorem flat_rp {v : V} {d : D} (h : Rp K Z ι v d) (f : flatD d = true) : flatV v = true := by cases h <;> first | rfl | cases f
theorem eqF_rp {v u : V} {x y : D} (h : Rp K Z ι v x) (h' : Rp K Z ι u y) (f : flatD x = true) (f' : flatD y = true) : eqV v u = eqF x y := by
  cases h <;> first | (cases f; done) | (cases h' <;> first | (cases f'; done) | rfl)
theorem all_flat : ∀ {xs : List V} {ds : List D}, RpL K Z ι xs ds → ds.all flatD = true → xs.all flatV = true
  | _, _, .nil, _ => rfl
  | _, _, .cons h q, f => by
    rw [List.all_cons, Bool.and_eq_true] at f ⊢
    exact ⟨flat_rp h f.1, all_flat q f.2⟩
theorem in_rp {v : V} {x : D} (hx : Rp K Z ι v x) (f : flatD x = true) : ∀ {xs : List V} {ds : List D}, RpL K Z ι xs ds → ds.all flatD = true → inV v xs = inF x ds
  | _, _, .nil, _ => rfl
  | _, _, .cons h q, g => by
    rw [List.all_cons, Bool.and_eq_true] at g
    unfold inV inF
    rw [List.any_cons, List.any_cons, eqF_rp h hx g.1 f]
    have ih := in_rp hx f q g.2
    unfold inV inF at ih
    rw [ih]
end
def rInM (K : PySem.W.Frag) (neg : Bool) : R2 := fun x y H Q => rIn K neg x y H Q ∨ ∃ (c : Nat) (z : Str), x = .str ⟨#[c]⟩ ∧ y = .str z ∧ Q (.bl (if neg then !decide (c ∈ z.cps.toList) else decide (c ∈ z.cps.toList))) H
theorem op_inM {X : Cx} : OpR X (compareOp .In) (rInM X.K false) := op_in_seq.or op_in_sign
theorem op_notInM {X : Cx} : OpR X (compareOp .NotIn) (rInM X.K true) := op_notIn_seq.or op_notIn_sign
theorem in_sound {K : PySem.W.Frag} {neg b : Bool} {st : Sto} {x y : D} {v u : V} {H Z : Hp} {ι : List Addr} {Q : VK} (hf : in? st x y = some b) (r : Rel K st H Z ι) (hx : Rp K Z ι v x) (hy : Rp K Z ι u y)
    (k : ∀ z H' Z', Grow Z ι H Z' ι H' → Rel K st H' Z' ι → Rp K Z' ι z (.bl (if neg then !b else b)) → Q z H') : rInM K neg v u H Q := by
  have seq : (match items? st y with
    | some ds => if flatD x && ds.all flatD then some (inF x ds) else none
    | none => none) = some b → rIn K neg v u H Q := fun hf => by
    cases hi : items? st y with
    | none => rw [hi] at hf; cases hf
    | some ds =>
      rw [hi] at hf
      dsimp only at hf
      split at hf
      · rename_i hfl
        rw [Bool.and_eq_true] at hfl
        cases hf
        obtain ⟨a, xs, rfl, hq, hr⟩ := items_sq r hy hi
        refine ⟨a, xs, rfl, ?_, flat_rp hx hfl.1, all_flat hr hfl.2, ?_⟩
        · rcases hq with q | q
          · exact .inr q
          · exact .inl (SqL.of q)
        · rw [in_rp hx hfl.1 hr hfl.2]
          exact k _ H Z (Grow.refl _ _ _) r (.bl _)
      · cases hf
  cases hy with
  | str z => cases hx with
    | str w =>
      unfold in? at hf
      dsimp only at hf
      split at hf
      · rename_i c hc
        cases hf
        have e : w = ⟨#[c]⟩ := by
          obtain ⟨a⟩ := w
          have h2 : a = #[c] := by apply Array.toList_inj.mp; exact hc
          rw [h2]
        subst e
        exact .inr ⟨c, z, rfl, rfl, k _ H Z (Grow.refl _ _ _) r (.bl _)⟩
      · cases hf
    | _ => cases hf
  | _ => exact .inl (seq hf)
theorem os_in {K : PySem.W.Frag} : OpS K fIn (rInM K false) := fun st x y d v u H Z ι Q hf r hx hy k => by
  unfold fIn at hf
  cases h : in? st x y with
  | none => rw [h] at hf; cases hf
  | some b => rw [h] at hf; cases hf; exact in_sound (neg := false) h r hx hy k
theorem os_notIn {K : PySem.W.Frag} : OpS K fNotIn (rInM K true) := fun st x y d v u H Z ι Q hf r hx hy k => by
  unfold fNotIn at hf
  cases h : in? st x y with
  | none => rw [h] at hf; cases hf
  | some b => rw [h] at hf; cases hf; exact in_sound (neg := true) h r hx hy k
/-! ### chains -/
def cI (c : Int → Int → Bool) : Sto → D → D → Option Bool := fun _ x y => match x, y with
  | .int i, .int j => some (c i j)
  | _, _ => none
theorem sd_chain {X : Cx} {W : WX} {a b c : Expr} {ma mb mc : ME} {op op' : CmpOp} {f f' : Int → Int → Bool} {pos : Pos} (ho : OpR X (compareOp op) (rI0 fun i j => .bl (f i j))) (ho' : OpR X (compareOp op') (rI0 fun i j => .bl (f' i j))) (ha : Sd X W a ma) (hb : Sd X W b mb) (hc : Sd X W c mc) (hm : lastMarks [op, op'] [b, c] = false := by with_unfolding_all rfl) :
    Sd X W (.Compare a [op, op'] [b, c] pos) (mChain (cI f) (cI f') ma mb mc) := by
  refine pe_imp (pe_chain ho ho' ha hb hc hm) fun σ H Q ⟨ρ, st, Z, ι, e, r, p⟩ => ?_
  refine rdG.mono (kont e r p) fun v H1 ⟨st1, Z1, ι1, x, g1, e1, r1, rx, p1⟩ => ?_
  refine rdG.mono (kont e1 r1 p1) fun u H2 ⟨st2, Z2, ι2, y, g2, e2, r2, ry, p2⟩ => ?_
  have rx2 := rx.mono g2.toExt
  cases rx2 with
  | int i => cases ry with
    | int j =>
      refine ⟨i, j, rfl, rfl, f i j, rfl, ?_⟩
      cases hk : f i j with
      | false => simp only [cI, hk] at p2; exact iteF (p2 _ H2 Z2 ι2 (Grow.refl _ _ _) r2 (.bl false))
      | true =>
        simp only [cI, hk] at p2
        refine iteT (rdG.mono (kont e2 r2 p2) fun w H3 ⟨st3, Z3, ι3, z, g3, e3, r3, rz, p3⟩ => ?_)
        cases rz with
        | int l => exact ⟨j, l, rfl, rfl, p3 _ H3 Z3 ι3 (Grow.refl _ _ _) r3 (.bl _)⟩
        | _ => exact p3.elim
    | _ => exact p2.elim
  | _ => exact p2.elim
/-! ### built-in functions -/
def CallS (K : PySem.W.Frag) (f : Sto → List D → Option (D × Sto)) (r : List V → Hp → VK → Prop) : Prop := ∀ (st st' : Sto) (ds : List D) (d : D) (vs : List V) (H Z : Hp) (ι : List Addr) (Q : VK), f st ds = some (d, st') → Rel K st H Z ι → RpL K Z ι vs ds →
  (∀ z H' Z' ι', Grow Z ι H Z' ι' H' → Rel K st' H' Z' ι' → Rp K Z' ι' z d → Q z H') → r vs H Q
def mCallB (f : Sto → List D → Option (D × Sto)) (a : MA) : ME := fun ρ s => bnd (a ρ s) fun ds s => match f s ds with
  | some (d, s') => some (.ok d s')
  | none => none
def pu (g : Sto → List D → Option D) : Sto → List D → Option (D × Sto) := fun s ds => (g s ds).map fun d => (d, s)
theorem pu_inv {g : Sto → List D → Option D} {s s' : Sto} {ds : List D} {d : D} (h : pu g s ds = some (d, s')) : g s ds = some d ∧ s' = s := by
  unfold pu at h
  cases e : g s ds with
  | none => rw [e] at h; cases h
  | some x => rw [e] at h; cases h; exact ⟨rfl, rfl⟩
theorem cb_read {K : PySem.W.Frag} {W : WX} {f : Sto → List D → Option (D × Sto)} {r : List V → Hp → VK → Prop} {ms : MA} {σ : L2.St} {H : Hp} {Q : VK} (hs : CallS K f r) (h : rd K W (mCallB f ms) σ H Q) : tCB r (rdA K W ms) σ H Q := by
  obtain ⟨ρ, st, Z, ι, e, r0, p⟩ := h
  refine rdG.mono (kont e r0 p) fun vs H1 ⟨st1, Z1, ι1, ds, g1, e1, r1, rx, p1⟩ => ?_
  cases hf : f st1 ds with
  | none => rw [hf] at p1; exact p1.elim
  | some q => obtain ⟨d, st2⟩ := q; rw [hf] at p1; exact hs st1 st2 ds d vs H1 Z1 ι1 Q hf r1 rx p1
section
variable {X : Cx} {W : WX} {e : Expr} {es : List Expr} {p pos : Pos} {ms : MA} {x : Str} {id T : String} {r : List V → Hp → VK → Prop} {f : Sto → List D → Option (D × Sto)}
theorem sd_callB (hc : CallR X (.builtin id) r) (hs : CallS X.K f r) (hm : X.mg x = none) (hv : bootBuiltins x = some (.builtin id)) (ha : SdA X W (e :: es) ms) (hg : Gl X x := by rfl) (hn : x ≠ "__name__" := by decide) (hdb : (x == ("__debug__" : Str)) = false := by decide)
    (he : starEach (e :: es) X.env = (false, eval e X.env) :: starEach es X.env := by rfl) (hpl : (backTo pos (starEach es X.env)).any (·.1) = false := by rfl) : Sd X W (.Call (.Name x p) (e :: es) [] pos) (mCallB f ms) :=
  pe_imp (pe_callB hc hg hm hv ha hn hdb he hpl) fun _ _ _ h => cb_read hs h
theorem sd_callTy (hc : CallR X (.type T) r) (hs : CallS X.K f r) (hm : X.mg x = none) (hv : bootBuiltins x = some (.type T)) (ha : SdA X W (e :: es) ms) (hg : Gl X x := by rfl) (hn : x ≠ "__name__" := by decide) (hdb : (x == ("__debug__" : Str)) = false := by decide)
    (he : starEach (e :: es) X.env = (false, eval e X.env) :: starEach es X.env := by rfl) (hpl : (backTo pos (starEach es X.env)).any (·.1) = false := by rfl) : Sd X W (.Call (.Name x p) (e :: es) [] pos) (mCallB f ms) :=
  pe_imp (pe_callTy hc hg hm hv ha hn hdb he hpl) fun _ _ _ h => cb_read hs h
end
/-- len -/
def gLen (s : Sto) : List D → Option D
  | [.str z] => if z.length ≤ 16777216 then some (.int z.length) else none
  | [x] => (items? s x).map fun l => .int l.length
  | _ => none
theorem cs_len {K : PySem.W.Frag} : CallS K (pu gLen) (fun xs H Q => ∃ x n, xs = [x] ∧ LenV K x H n ∧ Q (.int n) H) := fun st st' ds d vs H Z ι Q hf r hv k => by
  obtain ⟨hf, rfl⟩ := pu_inv hf
  cases hv with
  | nil => cases hf
  | cons h q => cases q with
    | cons _ _ => cases h <;> cases hf
    | nil =>
      have seq : ∀ {v : V} {x : D}, Rp K Z ι v x → ((items? st' x).map fun l => D.int l.length) = some d → ∃ x n, [v] = [x] ∧ LenV K x H n ∧ Q (.int n) H := fun {v x} hx hf => by
        cases h1 : items? st' x with
        | none => rw [h1] at hf; cases hf
        | some l =>
          rw [h1] at hf
          cases hf
          obtain ⟨a, xs, rfl, hq, hr⟩ := items_sq r hx h1
          refine ⟨_, xs.length, rfl, ?_, by rw [hr.length]; exact k _ H Z ι (Grow.refl _ _ _) r (.int _)⟩
          rcases hq with q | q
          · exact .inr ⟨xs, q, rfl⟩
          · exact .inl ⟨xs, SqL.of q, rfl⟩
      cases h with
      | str z =>
        unfold gLen at hf
        dsimp only at hf
        split at hf
        · rename_i hl
          cases hf
          exact ⟨_, _, rfl, ⟨by rw [← sline]; exact hl, rfl⟩, k _ H Z ι (Grow.refl _ _ _) r (.int _)⟩
        · cases hf
      | lst h q => exact seq (.lst h q) hf
      | tup h q => exact seq (.tup h q) hf
      | ref h => exact seq (.ref h) hf
      | non => cases hf
      | bl b => cases hf
      | int j => cases hf
      | dct _ _ _ => cases hf
      | scr _ => cases hf
/-- list(x): a new immutable list, a new box -/
def seqS (s : Sto) : D → Option (List D)
  | .scr ns => some (ns.map .int)
  | x => items? s x
def gList (s : Sto) : List D → Option D
  | [x] => (seqS s x).map .lst
  | _ => none
def gListB (s : Sto) : List D → Option (D × Sto)
  | [x] => (seqS s x).map fun l => (.ref s.length, s ++ [.lst l])
  | _ => none
theorem ints_rp {K : PySem.W.Frag} {Z : Hp} {ι : List Addr} : ∀ ns : List Int, RpL K Z ι (ns.map V.int) (ns.map D.int)
  | [] => .nil
  | n :: ns => .cons (.int n) (ints_rp ns)
theorem seqS_sq {K : PySem.W.Frag} {st : Sto} {H Z : Hp} {ι : List Addr} {v : V} {d : D} {ds : List D} (r : Rel K st H Z ι) (h : Rp K Z ι v d) (hi : seqS st d = some ds) : ∃ a xs, v = .ref a ∧ (SqL K H a xs ∨ SqT K H a xs) ∧ RpL K Z ι xs ds := by
  have go : ∀ {v : V} {d : D}, Rp K Z ι v d → items? st d = some ds → ∃ a xs, v = .ref a ∧ (SqL K H a xs ∨ SqT K H a xs) ∧ RpL K Z ι xs ds := fun {v d} h hi => by
    obtain ⟨a, xs, e, hq, hr⟩ := items_sq r h hi
    exact ⟨a, xs, e, hq.elim .inr fun q => .inl (SqL.of q), hr⟩
  cases h with
  | scr h => cases hi; exact ⟨_, _, rfl, .inl (same_sql r.zin h), ints_rp _⟩
  | lst h q => exact go (.lst h q) hi
  | tup h q => exact go (.tup h q) hi
  | ref h => exact go (.ref h) hi
  | _ => cases hi
theorem cs_list {K : PySem.W.Frag} : CallS K (pu gList) (fun xs H Q => ∃ p ys, xs = [.ref p] ∧ (SqL K H p ys ∨ SqT K H p ys) ∧ ∀ l, H l = none → Q (.ref l) (upd H l (.lst ys))) := fun st st' ds d vs H Z ι Q hf r hv k => by
  obtain ⟨hf, rfl⟩ := pu_inv hf
  cases hv with
  | nil => cases hf
  | @cons v _ x _ h q => cases q with
    | cons _ _ => cases hf
    | nil =>
      cases h1 : seqS st' x with
      | none => simp [gList, h1] at hf
      | some l =>
        simp [gList, h1] at hf
        subst hf
        obtain ⟨a, xs, rfl, hq, hr⟩ := seqS_sq r h h1
        refine ⟨a, xs, rfl, hq, fun n hn => ?_⟩
        obtain ⟨r2, g2⟩ := r.zone (o := .lst xs) hn
        exact k _ _ _ _ g2 r2 (.lst upd_same (hr.mono g2.toExt))
theorem cs_listB {K : PySem.W.Frag} : CallS K gListB (fun xs H Q => ∃ p ys, xs = [.ref p] ∧ (SqL K H p ys ∨ SqT K H p ys) ∧ ∀ l, H l = none → Q (.ref l) (upd H l (.lst ys))) := fun st st' ds d vs H Z ι Q hf r hv k => by
  cases hv with
  | nil => cases hf
  | @cons v _ x _ h q => cases q with
    | cons _ _ => cases hf
    | nil =>
      cases h1 : seqS st x with
      | none => simp [gListB, h1] at hf
      | some l =>
        simp [gListB, h1] at hf
        obtain ⟨rfl, rfl⟩ := hf
        obtain ⟨a, xs, rfl, hq, hr⟩ := seqS_sq r h h1
        refine ⟨a, xs, rfl, hq, fun n hn => ?_⟩
        obtain ⟨r2, g2, h2⟩ := box_lst r hn hr
        exact k _ _ _ _ g2 r2 h2
def gTuple (s : Sto) : List D → Option D
  | [x] => (items? s x).map .tup
  | _ => none
theorem cs_tuple {K : PySem.W.Frag} : CallS K (pu gTuple) (fun xs H Q => ∃ p ys, xs = [.ref p] ∧ ((SqL K H p ys ∧ ∀ l, H l = none → Q (.ref l) (upd H l (.tup ys))) ∨ (SqT K H p ys ∧ Q (.ref p) H))) := fun st st' ds d vs H Z ι Q hf r hv k => by
  obtain ⟨hf, rfl⟩ := pu_inv hf
  cases hv with
  | nil => cases hf
  | @cons v _ x _ h q => cases q with
    | cons _ _ => cases hf
    | nil =>
      have lists : ∀ {l : List D} {a : Addr} {xs : List V}, H a = some (.lst xs) → RpL K Z ι xs l → (∀ z H' Z' ι', Grow Z ι H Z' ι' H' → Rel K st' H' Z' ι' → Rp K Z' ι' z (.tup l) → Q z H') → ∃ p ys, [V.ref a] = [.ref p] ∧ ((SqL K H p ys ∧ ∀ l, H l = none → Q (.ref l) (upd H l (.tup ys))) ∨ (SqT K H p ys ∧ Q (.ref p) H)) := fun {l a xs} hH hr k => by
        refine ⟨a, xs, rfl, .inl ⟨SqL.of hH, fun n hn => ?_⟩⟩
        obtain ⟨r2, g2⟩ := r.zone (o := .tup xs) hn
        exact k _ _ _ _ g2 r2 (.tup (SqT.of upd_same) (hr.mono g2.toExt))
      cases h with
      | lst h q => cases hf; exact lists (r.zin _ _ h) q k
      | tup h q => cases hf; exact ⟨_, _, rfl, .inr ⟨same_sqt r.zin h, k _ H Z ι (Grow.refl _ _ _) r (.tup h q)⟩⟩
      | @ref n a h =>
        cases h1 : items? st' (.ref n) with
        | none => simp [gTuple, h1] at hf
        | some l =>
          simp [gTuple, h1] at hf
          subst hf
          obtain ⟨b, xs, e, hq, hr⟩ := lst_sq r (.ref h) (show lst? st' (.ref n) = some l from h1)
          cases e
          exact lists hq hr k
      | _ => cases hf
def gInt : Sto → List D → Option D := fun _ ds => match ds with
  | [.int i] => some (.int i)
  | [.bl b] => some (.int (if b then 1 else 0))
  | _ => none
theorem cs_int {K : PySem.W.Frag} : CallS K (pu gInt) (fun xs H Q => (∃ i, xs = [.int i] ∧ Q (.int i) H) ∨ ∃ k, xs = [.bl k] ∧ Q (.int (if k then 1 else 0)) H) := fun st st' ds d vs H Z ι Q hf r hv k => by
  obtain ⟨hf, rfl⟩ := pu_inv hf
  cases hv with
  | nil => cases hf
  | cons h q => cases q with
    | cons _ _ => cases h <;> cases hf
    | nil => cases h with
      | int i => cases hf; exact .inl ⟨i, rfl, k _ H Z ι (Grow.refl _ _ _) r (.int _)⟩
      | bl b => cases hf; exact .inr ⟨b, rfl, k _ H Z ι (Grow.refl _ _ _) r (.int _)⟩
      | _ => cases hf
def bls : List D → Option (List Bool)
  | [] => some []
  | .bl b :: r => (bls r).map (b :: ·)
  | _ :: _ => none
theorem bls_rp {K : PySem.W.Frag} {Z : Hp} {ι : List Addr} : ∀ {xs : List V} {ds : List D} {bs : List Bool}, RpL K Z ι xs ds → bls ds = some bs → xs = bs.map V.bl
  | _, _, _, .nil, h => by cases h; rfl
  | _, _, _, .cons h q, e => by
    cases h with
    | bl b =>
      rename_i ds
      unfold bls at e
      cases e2 : bls ds with
      | none => rw [e2] at e; cases e
      | some cs => rw [e2] at e; cases e; rw [List.map_cons, bls_rp q e2]
    | _ => cases e
def gAll (s : Sto) : List D → Option D
  | [x] => ((lst? s x).bind bls).map fun bs => .bl (bs.all id)
  | _ => none
def gAny (s : Sto) : List D → Option D
  | [x] => ((lst? s x).bind bls).map fun bs => .bl (bs.any id)
  | _ => none
theorem cs_all {K : PySem.W.Frag} : CallS K (pu gAll) (rAll K) := fun st st' ds d vs H Z ι Q hf r hv k => by
  obtain ⟨hf, rfl⟩ := pu_inv hf
  cases hv with
  | nil => cases hf
  | @cons v _ x _ h q => cases q with
    | cons _ _ => cases hf
    | nil =>
      cases h1 : lst? st' x with
      | none => simp [gAll, h1] at hf
      | some l => cases h2 : bls l with
        | none => simp [gAll, h1, h2] at hf
        | some bs =>
          simp [gAll, h1, h2] at hf
          subst hf
          obtain ⟨a, xs, rfl, hH, hr⟩ := lst_sq r h h1
          have e := bls_rp hr h2
          subst e
          exact ⟨a, bs, rfl, SqL.of hH, k _ H Z ι (Grow.refl _ _ _) r (.bl _)⟩
theorem cs_any {K : PySem.W.Frag} : CallS K (pu gAny) (rAny K) := fun st st' ds d vs H Z ι Q hf r hv k => by
  obtain ⟨hf, rfl⟩ := pu_inv hf
  cases hv with
  | nil => cases hf
  | @cons v _ x _ h q => cases q with
    | cons _ _ => cases hf
    | nil =>
      cases h1 : lst? st' x with
      | none => simp [gAny, h1] at hf
      | some l => cases h2 : bls l with
        | none => simp [gAny, h1, h2] at hf
        | some bs =>
          simp [gAny, h1, h2] at hf
          subst hf
          obtain ⟨a, xs, rfl, hH, hr⟩ := lst_sq r h h1
          have e := bls_rp hr h2
          subst e
          exact ⟨a, bs, rfl, SqL.of hH, k _ H Z ι (Grow.refl _ _ _) r (.bl _)⟩
end MP


set_option Elab.async false
set_option linter.all false
set_option maxRecDepth 100000
set_option maxHeartbeats 4000000
/-! MP9: methods of lists, stores by place, dicts -/
namespace MP
variable [Wd]
open PySem L2

/-! ### methods of built-in things -/
def MethS (K : PySem.W.Frag) (f : Sto → D → List D → Option (D × Sto)) (r : V → List V → Hp → VK → Prop) : Prop := ∀ (st st' : Sto) (x : D) (ds : List D) (d : D) (v : V) (vs : List V) (H Z : Hp) (ι : List Addr) (Q : VK), f st x ds = some (d, st') → Rel K st H Z ι → Rp K Z ι v x → RpL K Z ι vs ds →
  (∀ z H' Z' ι', Grow Z ι H Z' ι' H' → Rel K st' H' Z' ι' → Rp K Z' ι' z d → Q z H') → r v vs H Q
def mBm (ty : Sto → D → Bool) (f : Sto → D → List D → Option (D × Sto)) (o : ME) (a : MA) : ME := fun ρ s => bnd (o ρ s) fun x s => if ty s x = true then bnd (a ρ s) fun ds s => (match f s x ds with
  | some (d, s') => some (.ok d s')
  | none => none) else none
def mBm0 (ty : Sto → D → Bool) (f : Sto → D → List D → Option (D × Sto)) (o : ME) : ME := fun ρ s => bnd (o ρ s) fun x s => if ty s x = true then (match f s x [] with
  | some (d, s') => some (.ok d s')
  | none => none) else none
def tyL (s : Sto) (x : D) : Bool := (lst? s x).isSome
def tyS (_ : Sto) : D → Bool
  | .str _ => true
  | _ => false
def TyS (K : PySem.W.Frag) (T : String) (ty : Sto → D → Bool) : Prop := ∀ st x v H Z ι, ty st x = true → Rel K st H Z ι → Rp K Z ι v x → tyV K T v H
theorem ty_list {K : PySem.W.Frag} : TyS K "list" tyL := fun st x v H Z ι h r hx => by
  unfold tyL at h
  cases e : lst? st x with
  | none => rw [e] at h; cases h
  | some l =>
    obtain ⟨a, xs, rfl, hH, _⟩ := lst_sq r hx e
    exact .inl ⟨rfl, xs, SqL.of hH⟩
theorem ty_str {K : PySem.W.Frag} : TyS K "str" tyS := fun st x v H Z ι h r hx => by
  cases hx with
  | str z => exact rfl
  | _ => cases h
section
variable {X : Cx} {W : WX} {o e : Expr} {es : List Expr} {mo : ME} {ms : MA} {name : Str} {apos cpos : Pos} {T id : String} {r : V → List V → Hp → VK → Prop} {ty : Sto → D → Bool} {f : Sto → D → List D → Option (D × Sto)}
theorem sd_bm (pa : PlainAttrs T) (slot : Slot T name id) (hty : typeOf (.builtin id) = pure (.type "method_descriptor")) (hm : MtR X id r) (hT : TyS X.K T ty) (hs : MethS X.K f r) (ho : Sd X W o mo) (ha : SdA X W (e :: es) ms)
    (hbase : attributeBase o name X.env (eval o X.env) = eval o X.env := by rfl)
    (hfew : ((backTo cpos (starEach (e :: es) X.env)).all (fun x => !x.1) && (backToKw cpos (keywordEach [] X.env)).all (fun x => x.1.isSome) && decide ((e :: es).length + ([] : List Keyword).length + (if ([] : List Keyword).isEmpty then 0 else 1) < 30)) = true := by rfl)
    (hline : (apos.endLine == cpos.line) = true := by rfl) (hst : starEach (e :: es) X.env = (false, eval e X.env) :: starEach es X.env := by rfl) (hplain : (backTo cpos (starEach es X.env)).any (·.1) = false := by rfl) :
    Sd X W (.Call (.Attribute o name apos) (e :: es) [] cpos) (mBm ty f mo ms) := by
  refine pe_imp (pe_bm pa slot hty hm ho ha hbase hfew hline hst hplain) fun σ H Q ⟨ρ, st, Z, ι, en, r0, p⟩ => ?_
  refine rdG.mono (kont en r0 p) fun v H1 ⟨st1, Z1, ι1, x, g1, e1, r1, rx, p1⟩ => ?_
  by_cases ht : ty st1 x = true
  · rw [if_pos ht] at p1
    refine ⟨hT st1 x v H1 Z1 ι1 ht r1 rx, rdG.mono (kont e1 r1 p1) fun vs H2 ⟨st2, Z2, ι2, ds, g2, e2, r2, rds, p2⟩ => ?_⟩
    cases hf : f st2 x ds with
    | none => rw [hf] at p2; exact p2.elim
    | some q => obtain ⟨d, st3⟩ := q; rw [hf] at p2; exact hs st2 st3 x ds d v vs H2 Z2 ι2 Q hf r2 (rx.mono g2.toExt) rds p2
  · rw [if_neg ht] at p1; exact p1.elim
end
/-- the box list behind a reference -/
def box? (s : Sto) : D → Option (Nat × List D)
  | .ref n => match s[n]? with
    | some (.lst l) => some (n, l)
    | _ => none
  | _ => none
theorem box_at {K : PySem.W.Frag} {st : Sto} {H Z : Hp} {ι : List Addr} {v : V} {x : D} {n : Nat} {l : List D} (r : Rel K st H Z ι) (h : Rp K Z ι v x) (hb : box? st x = some (n, l)) : ∃ a xs, v = .ref a ∧ x = .ref n ∧ st[n]? = some (.lst l) ∧ ι[n]? = some a ∧ Z a = none ∧ H a = some (.lst xs) ∧ RpL K Z ι xs l := by
  cases h with
  | @ref m a h =>
    unfold box? at hb
    dsimp only at hb
    split at hb
    · rename_i l' hl
      cases hb
      obtain ⟨hz, xs, h2, h3⟩ := r.ob _ _ a hl h
      exact ⟨a, xs, rfl, rfl, hl, h, hz, h2, h3⟩
    · cases hb
  | _ => cases hb
theorem Rel.setL {K : PySem.W.Frag} {st : Sto} {H Z : Hp} {ι : List Addr} (r : Rel K st H Z ι) {n : Nat} {a : Addr} {xs : List V} {ds : List D} (hn : ι[n]? = some a) (hz : Z a = none) (q : RpL K Z ι xs ds) : Rel K (st.set n (.lst ds)) (upd H a (.lst xs)) Z ι ∧ Grow Z ι H Z ι (upd H a (.lst xs)) :=
  r.change hn hz fun H' e => ⟨hz, xs, e, q⟩
def bAppend (s : Sto) (x : D) : List D → Option (D × Sto)
  | [y] => (box? s x).bind fun nl => if nl.2.length < 16777216 then some (.non, s.set nl.1 (.lst (nl.2 ++ [y]))) else none
  | _ => none
theorem ms_append {K : PySem.W.Frag} : MethS K bAppend rAppend := fun st st' x ds d v vs H Z ι Q hf r hx hv k => by
  cases hv with
  | nil => cases hf
  | @cons u _ y _ h q => cases q with
    | cons _ _ => cases hf
    | nil =>
      cases hb : box? st x with
      | none => simp [bAppend, hb] at hf
      | some nl =>
        obtain ⟨n, l⟩ := nl
        simp [bAppend, hb] at hf
        obtain ⟨hl, rfl, rfl⟩ := hf
        obtain ⟨a, xs, rfl, rfl, hs, hn, hz, hH, hr⟩ := box_at r hx hb
        obtain ⟨r2, g2⟩ := r.setL hn hz (hr.append (.one h))
        exact ⟨a, xs, u, rfl, rfl, hH, by rw [hr.length, ← sline]; exact hl, k _ _ _ _ g2 r2 .non⟩
def bPopAt (s : Sto) (x : D) : List D → Option (D × Sto)
  | [.int i] => (box? s x).bind fun nl => if decide (-(2 ^ 63) ≤ i) && decide (i < 2 ^ 63) then match seqIndex? i nl.2.length with
    | some k => (nl.2[k]?).map fun y => (y, s.set nl.1 (.lst (nl.2.eraseIdx k)))
    | none => none else none
  | _ => none
theorem RpL.erase {K : PySem.W.Frag} {Z : Hp} {ι : List Addr} : ∀ {xs : List V} {ds : List D} (k : Nat), RpL K Z ι xs ds → RpL K Z ι (xs.eraseIdx k) (ds.eraseIdx k)
  | _, _, _, .nil => .nil
  | _, _, 0, .cons _ q => q
  | _, _, k + 1, .cons h q => .cons h (RpL.erase k q)
theorem ms_popAt {K : PySem.W.Frag} : MethS K bPopAt rPopAt := fun st st' x ds d v vs H Z ι Q hf r hx hv k => by
  cases hv with
  | nil => cases hf
  | @cons u _ y _ h q => cases q with
    | cons _ _ => cases h <;> cases hf
    | nil =>
      cases h with
      | int i =>
        cases hb : box? st x with
        | none => simp [bPopAt, hb] at hf
        | some nl =>
          obtain ⟨n, l⟩ := nl
          simp only [bPopAt, hb, Option.bind_some] at hf
          split at hf
          · rename_i hi
            rw [Bool.and_eq_true, decide_eq_true_eq, decide_eq_true_eq] at hi
            split at hf
            · rename_i j hj
              cases hy : l[j]? with
              | none => rw [hy] at hf; cases hf
              | some y =>
                rw [hy] at hf
                cases hf
                obtain ⟨a, xs, rfl, rfl, hs, hn, hz, hH, hr⟩ := box_at r hx hb
                obtain ⟨w, hw, rw'⟩ := hr.get hy
                obtain ⟨r2, g2⟩ := r.setL hn hz (hr.erase j)
                exact ⟨a, xs, i, j, w, rfl, rfl, hH, hi.1, hi.2, by rw [hr.length]; exact hj, hw, k _ _ _ _ g2 r2 rw'⟩
            · cases hf
          · cases hf
      | _ => cases hf
def bExtend (s : Sto) (x : D) : List D → Option (D × Sto)
  | [y] => match box? s x, items? s y with
    | some nl, some m => if nl.2.length + m.length ≤ 16777216 then some (.non, s.set nl.1 (.lst (nl.2 ++ m))) else none
    | _, _ => none
  | _ => none
def rExtendM (K : PySem.W.Frag) : V → List V → Hp → VK → Prop := fun x vs H Q => rExtend x vs H Q ∨ ∃ l b xs zs, x = .ref l ∧ vs = [.ref b] ∧ H l = some (.lst xs) ∧ SqT K H b zs ∧ xs.length + zs.length ≤ sizeLine ∧ Q .non (upd H l (.lst (xs ++ zs)))
theorem extend_tup (l : Addr) (items : Array Value) (n : Nat) (b : Addr) (items2 : Array Value) (n2 : Nat) (dct : Option Addr) (sl : Array (Option Value)) (h0 : ¬(!items.isEmpty && Builtin.List.listTooLong (items.size + items2.size)) = true) (h1 : items.size ≤ sizeLine) (h2 : items.size + items2.size ≤ sizeLine + 1) :
    Meets (Builtin.«list.extend» ⟨[.ref l, .ref b], []⟩) (fun _ R s => (s.heap.get? l = some { cls := .type "list", dict := none, data := .seq items n, slots := #[] } ∧ s.heap.get? b = some { cls := .type "tuple", dict := dct, data := .seq items2 n2, slots := sl }) ∧ R (.ok (.ret Value.none)) { s with heap := s.heap.update l (Obj.mapSeq fun x => x ++ items2), toks := s.toks }) :=
  .of_wp fun prog w A R s ⟨⟨hl, hb⟩, h⟩ => by
    obtain ⟨hp, g, d, tk, os⟩ := s
    have f1 := AutoSeq1.sub_tuple_tuple
    have f2 := AutoSeq1.sub_list_list
    have f3 := AutoSeq1.sub_tuple_list
    have f4 := AutoSeq1.sub_list_tuple
    have hz' : (items ++ items2).size ≤ sizeLine + 1 := by rw [Array.size_append]; exact h2
    wp_walk using (wpAny_updateSeq hl rfl (hz := h1) (_hz' := hz')), wpAny_loadPart' hl, wpAny_loadPart' hb
    exact ⟨_, rfl, h⟩
theorem mt_extendT {X : Cx} : MtR X "list.extend" (fun x vs H Q => ∃ l b xs zs, x = .ref l ∧ vs = [.ref b] ∧ H l = some (.lst xs) ∧ SqT X.K H b zs ∧ xs.length + zs.length ≤ sizeLine ∧ Q .non (upd H l (.lst (xs ++ zs)))) := by
  intro pins s σ H x vs v us Q I rx rv h
  obtain ⟨l, b, xs, zs, rfl, rfl, hH, hB, hz, q⟩ := h
  cases rx
  obtain ⟨u, rfl, ru⟩ := vals1 rv
  cases ru
  obtain ⟨z, its, n, r, hl, e⟩ := I.lstM hH
  obtain ⟨its2, r2, ht, hz2⟩ := I.tuple hB
  obtain ⟨⟨c2, dd2, dt2, sl2⟩, e2, hc2, n2, hd2⟩ := ht
  have hl2 := r2.length
  cases (show c2 = Value.type "tuple" from hc2)
  cases (show dt2 = Data.seq its2.toArray n2 from hd2)
  have hsz : its.toArray.size + its2.toArray.size ≤ sizeLine := by rw [List.size_toArray, List.size_toArray]; omega
  have hlong : ¬ (!its.toArray.isEmpty && Builtin.List.listTooLong (its.toArray.size + its2.toArray.size)) = true := by
    rw [notLongL hsz, Bool.and_false]
    exact Bool.false_ne_true
  refine call_meets F.slot_list_extend ⟨_, e, rfl⟩ F.entry_list_extend (F.args_list_extend_2 _ _) (extend_tup l its.toArray n b its2.toArray n2 dd2 sl2 hlong (by rw [List.size_toArray]; omega) (by omega)) ⟨⟨e, e2⟩, ?_⟩
  exact ⟨.non, _, I.lset (its' := its ++ its2) hH e (by simp) (r.append r2) (by rw [List.length_append]; exact hz), rfl, q⟩
theorem mt_extendM {X : Cx} : MtR X "list.extend" (rExtendM X.K) := MtR.or mt_extend mt_extendT
theorem ms_extend {K : PySem.W.Frag} : MethS K bExtend (rExtendM K) := fun st st' x ds d v vs H Z ι Q hf r hx hv k => by
  cases hv with
  | nil => cases hf
  | @cons u _ y _ h q => cases q with
    | cons _ _ => cases hf
    | nil =>
      cases hb : box? st x with
      | none => simp [bExtend, hb] at hf
      | some nl => cases hi : items? st y with
        | none => simp [bExtend, hb, hi] at hf
        | some m =>
          obtain ⟨n, l⟩ := nl
          simp [bExtend, hb, hi] at hf
          obtain ⟨hl, rfl, rfl⟩ := hf
          obtain ⟨a, xs, rfl, rfl, hs, hn, hz, hH, hr⟩ := box_at r hx hb
          obtain ⟨b, ys, rfl, hq, hr2⟩ := items_sq r h hi
          obtain ⟨r2, g2⟩ := r.setL hn hz (hr.append hr2)
          have hsz : xs.length + ys.length ≤ sizeLine := by rw [hr.length, hr2.length, ← sline]; exact hl
          rcases hq with q | q
          · exact .inr ⟨a, b, xs, ys, rfl, rfl, hH, q, hsz, k _ _ _ _ g2 r2 .non⟩
          · exact .inl ⟨a, b, xs, ys, rfl, rfl, hH, q, hsz, k _ _ _ _ g2 r2 .non⟩
/-! ### x[i] = e -/
def gmSub (o i : ME) : MG := fun d ρ s => bnd (noX (o ρ s)) fun x s => bnd (noX (i ρ s)) fun y s => match y with
  | .int j => (match box? s x with
    | some nl => (match ixN nl.2.length j with
      | some k => some (.ok ρ (s.set nl.1 (.lst (nl.2.set k d))))
      | none => none)
    | none => none)
  | _ => none
theorem gmSub_noex {o i : ME} : ∀ d ρ s x s', gmSub o i d ρ s ≠ some (.ex x s') := fun d ρ s x s' h => by
  unfold gmSub at h
  cases h1 : noX (o ρ s) with
  | none => rw [h1] at h; cases h
  | some q => cases q with
    | ex _ _ => have := h1; unfold noX at this; split at this <;> cases this
    | ok a s1 =>
      rw [h1] at h
      dsimp only [bnd_ok] at h
      cases h2 : noX (i ρ s1) with
      | none => rw [h2] at h; cases h
      | some q => cases q with
        | ex _ _ => have := h2; unfold noX at this; split at this <;> cases this
        | ok b s2 =>
          rw [h2] at h
          dsimp only [bnd_ok] at h
          cases b with
          | int j =>
            dsimp only at h
            split at h
            · split at h
              · cases h
              · cases h
            · cases h
          | _ => cases h
section
variable {X : Cx} {W : WX} {o i : Expr} {pos : Pos} {mo mi : ME}
theorem sg_sub (h : PG X (.Subscript o i pos) (gSub (rd X.K W mo) (rd X.K W mi) rSetL)) : SdG X W (.Subscript o i pos) (gmSub mo mi) := by
  refine pg_imp h fun v σ H Q ⟨ρ, st, Z, ι, d, e, r, h, p⟩ => ?_
  unfold gmSub at p
  cases h1 : noX (mo ρ st) with
  | none => rw [h1] at p; exact p.elim
  | some q => cases q with
    | ex _ _ => have := h1; unfold noX at this; split at this <;> cases this
    | ok x st1 =>
      rw [h1] at p
      dsimp only [bnd_ok] at p
      refine ⟨ρ, st, Z, ι, e, r, Post.ok0 (noX_inv h1) fun vo H1 Z1 ι1 g1 r1 rx => ?_⟩
      cases h2 : noX (mi ρ st1) with
      | none => rw [h2] at p; exact p.elim
      | some q => cases q with
        | ex _ _ => have := h2; unfold noX at this; split at this <;> cases this
        | ok y st2 =>
          rw [h2] at p
          dsimp only [bnd_ok] at p
          refine ⟨ρ, st1, Z1, ι1, e.mono g1.toExt, r1, Post.ok0 (noX_inv h2) fun vi H2 Z2 ι2 g2 r2 ry => ?_⟩
          cases ry with
          | int j =>
            dsimp only at p
            cases hb : box? st2 x with
            | none => rw [hb] at p; exact p.elim
            | some nl =>
              obtain ⟨n, l⟩ := nl
              rw [hb] at p
              dsimp only at p
              cases hk : ixN l.length j with
              | none => rw [hk] at p; exact p.elim
              | some k =>
                rw [hk] at p
                obtain ⟨a, xs, rfl, rfl, hs, hn, hz, hH, hr⟩ := box_at r2 (rx.mono g2.toExt) hb
                have gg := g1.trans g2
                obtain ⟨r3, g3⟩ := r2.setL hn hz (RpL.set (h.mono gg.toExt) k hr)
                exact ⟨a, xs, j, k, rfl, rfl, hH, by rw [hr.length]; exact hk, p σ _ Z2 ι2 (gg.trans g3) r3 (e.mono gg.toExt)⟩
          | _ => exact p.elim
end
end MP


set_option Elab.async false
set_option linter.all false
set_option maxRecDepth 100000
set_option maxHeartbeats 4000000
/-! MPS: sets of texts: set(seq) and, around it, sorted(..) and len(..) -/
namespace MP
variable [Wd]
open PySem PySem.Spec PyProof.Rows L2

/-- the text of an entry -/
def kS (e : Int × Value) : Str := match e.2 with
  | .str k _ => k
  | _ => Str.empty
def okS (w : World) (e : Int × Value) : Prop := ∃ k tk, e.2 = Value.str k tk ∧ e.1 = hashStr w k
/-- at a stands the set of the texts ks, each once -/
def SetS (w : World) (ks : List Str) (a : Addr) (h : Heap) : Prop :=
  ∃ o es ep t, h.get? a = some o ∧ o.ExactSet ∧ o.data = .set es ep t ∧ (∀ e ∈ es.toList, okS w e) ∧ (es.toList.map kS).Perm ks ∧ ks.Nodup ∧
    es.size < scanBound ∧ t.fits es.size = true ∧ Ris t.place.toList ∧ (w.params.followText "set-order" = true ∨ t.led = true)
def putS (ks : List Str) (k : Str) : List Str := if k ∈ ks then ks else ks ++ [k]
def ddS (xs : List Str) : List Str := xs.foldl putS []
theorem putS_nodup {ks : List Str} {k : Str} (h : ks.Nodup) : (putS ks k).Nodup := by
  unfold putS
  split
  · exact h
  · rename_i hn
    rw [List.nodup_append]
    exact ⟨h, by simp, fun a ha b hb => by
      have e : b = k := by simpa using hb
      subst e
      exact fun z => hn (z ▸ ha)⟩
theorem putS_mem {ks : List Str} {k x : Str} : x ∈ putS ks k ↔ x ∈ ks ∨ x = k := by
  unfold putS
  split
  · rename_i h
    exact ⟨.inl, fun z => z.elim id fun e => e ▸ h⟩
  · simp
theorem putS_len (ks : List Str) (k : Str) : (putS ks k).length ≤ ks.length + 1 := by
  unfold putS
  split <;> simp
theorem fold_nodup : ∀ (xs ks : List Str), ks.Nodup → (xs.foldl putS ks).Nodup
  | [], _, h => h
  | x :: xs, ks, h => fold_nodup xs _ (putS_nodup h)
theorem fold_mem : ∀ (xs ks : List Str) (y : Str), y ∈ xs.foldl putS ks ↔ y ∈ ks ∨ y ∈ xs
  | [], ks, y => by simp
  | x :: xs, ks, y => by
    rw [List.foldl_cons, fold_mem xs, putS_mem, List.mem_cons, or_assoc]
theorem fold_len : ∀ (xs ks : List Str), (xs.foldl putS ks).length ≤ ks.length + xs.length
  | [], ks => Nat.le_refl _
  | x :: xs, ks => by
    have h := fold_len xs (putS ks x)
    have h2 := putS_len ks x
    rw [List.foldl_cons, List.length_cons]
    omega
theorem ddS_nodup (xs : List Str) : (ddS xs).Nodup := fold_nodup xs [] .nil
theorem ddS_mem (xs : List Str) (y : Str) : y ∈ ddS xs ↔ y ∈ xs := by
  unfold ddS
  rw [fold_mem]
  simp
theorem ddS_len (xs : List Str) : (ddS xs).length ≤ xs.length := by
  have h := fold_len xs []
  simpa [ddS] using h
theorem ddS_take_succ {xs : List Str} {i : Nat} (h : i < xs.length) : ddS (xs.take (i + 1)) = putS (ddS (xs.take i)) (xs.getD i Str.empty) := by
  have e : xs.take (i + 1) = xs.take i ++ [xs.getD i Str.empty] := by
    rw [List.take_add_one, List.getElem?_eq_getElem h, List.getD_eq_getElem?_getD, List.getElem?_eq_getElem h]
    rfl
  rw [e]
  unfold ddS
  rw [List.foldl_append]
  rfl
section
variable {P : Program} {w : World} {h h' : Heap} {a : Addr} {ks : List Str}
theorem SetS.at (R : SetS w ks a h) (k : ∀ o, h.get? a = some o → h'.get? a = some o) : SetS w ks a h' := by
  obtain ⟨o, es, ep, t, ho, r⟩ := R
  exact ⟨o, es, ep, t, k o ho, r⟩
theorem okS_elems {l : List (Int × Value)} (g : ∀ e ∈ l, okS w e) : ElemsOf (PySem.strKind P w) l := fun e he => by
  obtain ⟨k, tk, h1, h2⟩ := g e he
  exact ⟨⟨k, by rw [h1]; exact strKind_is P w k tk, h2⟩, by rw [h1] <;> rfl⟩
theorem okS_is {e : Int × Value} (g : okS w e) (k : Str) : (PySem.strKind P w).is k e.2 = true ↔ kS e = k := by
  obtain ⟨k0, tk, h1, _⟩ := g
  unfold kS
  rw [h1]
  constructor
  · intro q
    obtain ⟨t, ht⟩ := Value.isStrOf_shape (show Value.isStrOf k (Value.str k0 tk) = true from q)
    injection ht
  · intro q
    subst q
    exact strKind_is P w k0 tk
theorem okS_mem {l : List (Int × Value)} (g : ∀ e ∈ l, okS w e) (k : Str) : k ∈ l.map kS ↔ ∃ e ∈ l, (PySem.strKind P w).is k e.2 = true := by
  rw [List.mem_map]
  exact ⟨fun ⟨e, he, q⟩ => ⟨e, he, (okS_is (g e he) k).2 q⟩, fun ⟨e, he, q⟩ => ⟨e, he, (okS_is (g e he) k).1 q⟩⟩
end
section
variable {P : Program} {w : World} {A : Around} {E : Value → Shared → Prop} {s : Shared} {a : Addr} {ks : List Str}
theorem setS_tail {g : Bool → Sem Unit} (hg : ∀ (b : Bool) (s₁ : Shared) (Q' : Unit → Shared → Prop), Q' () s₁ → wpAny (model P w) A (g b) Q' E s₁)
    {o : Obj} {es : Array (Int × Value)} {ep : Nat} {t : SetTable} (ho : s.heap.get? a = some o) (hex : o.ExactSet) (hd : o.data = .set es ep t)
    {es1 : Array (Int × Value)} {t2 : SetTable} {ks' : List Str} (g1 : ∀ e ∈ es1.toList, okS w e) (m1 : (es1.toList.map kS).Perm ks') (nd1 : ks'.Nodup)
    (hb1 : es1.size < scanBound) (hf2 : t2.fits es1.size = true) (hr : Ris t2.place.toList) (hl : w.params.followText "set-order" = true ∨ t2.led = true) {wasDummy : Bool} {R : Option Bool → Shared → Prop}
    (hR : ∀ h', Heap.SameBut a s.heap h' → SetS w ks' a h' → R (some true) { s with heap := h' }) :
    wpAny (model P w) A (do
        storeSet a es1 t2
        if (!wasDummy && t2.tooFull) = true then do
            g (relayAll t2 es1 (SetTable.grown es1.size)).2.2
            storeSet a (relayAll t2 es1 (SetTable.grown es1.size)).1 (relayAll t2 es1 (SetTable.grown es1.size)).2.1
            pure (some true)
          else pure (some true)) R E s := by
  refine wpAny_bind (wpAny_storeSet_of ho hd ?_ (fits_of_scanBound hb1))
  have ho1 := store_at (es' := es1) (t' := t2) ho hd
  have sb1 := Heap.SameBut.update s.heap a (Obj.putSet es1 t2)
  by_cases hc : (!wasDummy && t2.tooFull) = true
  · rw [if_pos hc]
    have pm := relayAll_perm t2 es1 (SetTable.grown es1.size)
    have hf3 := relayAll_fits t2 es1 (SetTable.grown es1.size)
    have hr3 := relayAll_ris t2 es1 (SetTable.grown es1.size)
    have hl3 := relayAll_led t2 es1 (SetTable.grown es1.size)
    generalize relayAll t2 es1 (SetTable.grown es1.size) = Y at pm hf3 hr3 hl3 ⊢
    obtain ⟨es2, t3, gave⟩ := Y
    dsimp only at pm hf3 hr3 hl3 ⊢
    have hb2 : es2.size < scanBound := by
      have e : es2.size = es1.size := by rw [← Array.length_toList, pm.length_eq, Array.length_toList]
      rw [e]; exact hb1
    refine wpAny_bind (hg _ _ _ (wpAny_bind (wpAny_storeSet_of ho1 rfl ?_ (fits_of_scanBound hb2))))
    refine wpAny_pure (hR _ (sb1.trans (Heap.SameBut.update _ a _)) ?_)
    exact ⟨_, es2, _, t3, store_at (es' := es2) (t' := t3) ho1 rfl, hex, rfl, fun e he => g1 e (pm.mem_iff.mp he), (pm.map kS).trans m1, nd1, hb2, hf3, hr3, hl.imp id fun z => by rw [hl3]; exact z⟩
  · rw [if_neg hc]
    exact wpAny_pure (hR _ sb1 ⟨_, es1, _, t2, ho1, hex, rfl, g1, m1, nd1, hb1, hf2, hr, hl⟩)
theorem setS_add {k : Str} {tk : Tok} {Q : Bool → Shared → Prop} (R : SetS w ks a s.heap) (room : ks.length + 1 < scanBound)
    (hQ : ∀ b h', Heap.SameBut a s.heap h' → SetS w (putS ks k) a h' → Q b { s with heap := h' }) :
    wpAny (model P w) A (setAddHashed a (.str k tk) ((PySem.strKind P w).hash k)) Q E s := by
  obtain ⟨o, es, ep, t, ho, hex, hd, g, hm, nd, hb, hf, hr, hl⟩ := R
  have hsc : (Value.str k tk).scannable = true := rfl
  have hel : ElemsOf (PySem.strKind P w) es.toList := okS_elems g
  unfold setAddHashed setAddHashedIn
  refine wpAny_holding (wpAny_bind (wpAny_setState_of ho hd hf ?_))
  dsimp only
  rw [byScan_of hsc hb hel]
  simp only [↓reduceIte]
  unfold setAddByScan
  refine wpAny_bind ?_
  refine wpAny_bind (wpAny_rule ?_)
  refine wpAny_bind (wpAny_setScan_of (strKind_is P w k tk) ho hd hf hel ?_)
  cases hfi : List.findIdx? (fun e => (PySem.strKind P w).is k e.2) es.toList with
  | some j =>
    dsimp only
    obtain ⟨hj, pj, _⟩ := List.findIdx?_eq_some_iff_getElem.mp hfi
    have hk : k ∈ ks := hm.mem_iff.mp ((okS_mem (P := P) (w := w) g k).2 ⟨es.toList[j], List.getElem_mem hj, pj⟩)
    refine wpAny_pure (wpAny_pure (hQ _ s.heap (Heap.SameBut.refl a s.heap) ?_))
    have e : putS ks k = ks := if_pos hk
    rw [e]
    exact ⟨o, es, ep, t, ho, hex, hd, g, hm, nd, hb, hf, hr, hl⟩
  | none =>
    dsimp only
    have hnk : k ∉ ks := fun z => by
      obtain ⟨e, he, q⟩ := (okS_mem (P := P) (w := w) g k).1 (hm.mem_iff.mpr z)
      have c := List.findIdx?_eq_none_iff.mp hfi e he
      rw [q] at c
      cases c
    have hgw : ∀ (b : Bool) {s₁ : Shared} {Q' : Unit → Shared → Prop}, Q' () s₁ → wpAny (model P w) A (match b with | true => rule "set.scan.the-table-gave-way" | false => pure ()) Q' E s₁ :=
      fun b s₁ Q' q => by cases b <;> first | exact wpAny_pure q | exact wpAny_rule q
    have pm := layNew_perm t es ((PySem.strKind P w).hash k) (.str k tk)
    have hf1 := layNew_fits t es ((PySem.strKind P w).hash k) (.str k tk)
    have hr1 := layNew_ris t es ((PySem.strKind P w).hash k) (.str k tk) hr
    have hl1 := layNew_led t es ((PySem.strKind P w).hash k) (.str k tk)
    generalize layNew t es ((PySem.strKind P w).hash k) (.str k tk) = Y at pm hf1 hr1 hl1 ⊢
    obtain ⟨es1, t1, wasDummy, gave⟩ := Y
    dsimp only at pm hf1 hr1 hl1 ⊢
    rw [Array.toList_push] at pm
    have g1 : ∀ e ∈ es1.toList, okS w e := fun e he => by
      rcases List.mem_append.mp (pm.mem_iff.mp he) with z | z
      · exact g e z
      · rw [List.mem_singleton.mp z]; exact ⟨k, tk, rfl, rfl⟩
    have ep' : putS ks k = ks ++ [k] := if_neg hnk
    have m1 : (es1.toList.map kS).Perm (putS ks k) := by
      rw [ep']
      refine (pm.map kS).trans ?_
      rw [List.map_append]
      exact hm.append (List.Perm.refl _)
    have hsz : es1.size = ks.length + 1 := by
      have q := m1.length_eq
      rw [ep', List.length_map, Array.length_toList, List.length_append] at q
      exact q
    have hb1 : es1.size < scanBound := by rw [hsz]; exact room
    have hled : w.params.followText "set-order" = true ∨ t1.led = true := hl.imp id fun z => by rw [hl1]; exact z
    refine wpAny_bind (hgw _ ?_)
    split
    · refine wpAny_bind ?_
      rw [hashByValue_scannable 8 hsc]
      refine wpAny_pure ?_
      refine setS_tail ?_ ho hex hd g1 m1 (putS_nodup nd) hb1 ?_ ?_ ?_ ?_
      · intro b s₁ Q' q; cases b <;> first | exact wpAny_pure q | exact wpAny_rule q
      · first | (split <;> first | exact hf1 | exact SetTable.fits_plain_off hf1) | exact hf1
      · first | (split <;> exact hr1) | exact hr1
      · first | (split <;> exact hled) | exact hled
      · intro h' sb r; dsimp only; exact wpAny_pure (hQ _ h' sb r)
    · refine wpAny_bind (wpAny_pure ?_)
      simp only [↓reduceIte]
      refine setS_tail ?_ ho hex hd g1 m1 (putS_nodup nd) hb1 hf1 hr1 hled ?_
      · intro b s₁ Q' q; cases b <;> first | exact wpAny_pure q | exact wpAny_rule q
      · intro h' sb r; dsimp only; exact wpAny_pure (hQ _ h' sb r)
end
section
variable {prog : Program} {w : World} {A : Around} {R : Result → Shared → Prop} {I : Addr} {fp wr : List Addr} {G : Array GenState → Array GenState → Prop} {n : Nat} {P : Nat → Value → Prop} {St : Nat → Shared → Prop}
theorem loopS (W : WalksS prog w A.in1 I fp wr G n P St) (S : Addr) (hSf : S ∉ fp) (xs : List Str) (hsz : xs.length = n) (hroom : n + 1 < scanBound) (hval : ∀ i v, P i v → ∃ t, v = .str (xs.getD i Str.empty) t) :
    ∀ (k i : Nat) (s : Shared), n - i = k → i ≤ n → St i s → SetS w (ddS (xs.take i)) S s.heap →
      (∀ s', Moved (S :: wr) G s s' → SetS w (ddS xs) S s'.heap → R (.ok (.ret .none)) s') →
      codeAny (model prog w) A (.builtin "set.update.loop" ⟨[.ref S, .ref I], []⟩) R s := by
  have hSw : S ∉ wr := fun h => hSf (W.sub _ h)
  have hsub : ∀ b ∈ wr, b ∈ S :: wr := fun b hb => List.mem_cons_of_mem _ hb
  intro k
  induction k with
  | zero =>
    intro i s hk hi hst hS hR
    refine codeAny_builtin PyProof.Rows.F.entry_set_update_loop ?_
    rw [Around.under_plainId PyProof.Rows.F.plain_set_update_loop _]
    show wpAny _ A.in1 (pyNext (.ref I) >>= _) _ _ s
    have hin : i = n := by omega
    subst hin
    refine wpAny_bind (W.done s _ _ hst fun s' hm => ?_)
    show wpAny _ A.in1 (ret Value.none) _ _ s'
    rw [← hsz, List.take_length] at hS
    exact wpAny_pure (hR s' (hm.mono hsub) (hS.at fun o e => hm.heap S _ hSw e))
  | succ k ih =>
    intro i s hk hi hst hS hR
    have hlt : i < n := by omega
    refine codeAny_builtin PyProof.Rows.F.entry_set_update_loop ?_
    rw [Around.under_plainId PyProof.Rows.F.plain_set_update_loop _]
    show wpAny _ A.in1 (pyNext (.ref I) >>= _) _ _ s
    refine wpAny_bind (W.item i s _ _ hlt hst fun v s' hP hst' hm => ?_)
    obtain ⟨t, rfl⟩ := hval i v hP
    have hS' := hS.at (h' := s'.heap) fun o e => hm.heap S _ hSw e
    show wpAny _ A.in1 (holding [Value.str (xs.getD i Str.empty) t] (setAdd S (.str (xs.getD i Str.empty) t)) >>= _) _ _ s'
    refine wpAny_bind (wpAny_holding ?_)
    unfold setAdd
    refine wpAny_holding (wpAny_bind ((PySem.strKind prog w).pyHash (k := xs.getD i Str.empty) (strKind_is _ _ _ _) ?_))
    have hl : (ddS (xs.take i)).length + 1 < scanBound := by
      have h1 := ddS_len (xs.take i)
      rw [List.length_take] at h1
      omega
    refine setS_add (s := { s' with toks := s'.toks + 1 }) hS' hl fun b h' hsb hS2 => ?_
    rw [← ddS_take_succ (by omega)] at hS2
    refine wpAny_pure ⟨plainId_quiet PyProof.Rows.F.plain_set_update_loop _, ih (i + 1) _ (by omega) hlt (W.frame _ s' _ _ hst' (Nat.le_succ _) fun b hb o e => ?_) hS2 fun s'' hm'' hS'' => ?_⟩
    · rw [hsb.2 b (fun h : b = S => hSf (by rw [← h]; exact hb))]; exact e
    · refine hR s'' (Moved.trans W.gtrans ((hm.mono hsub).then_heap (Nat.le_succ _) fun b o hb e => ?_) hm'') hS''
      rw [hsb.2 b (fun h : b = S => hb (by rw [h]; exact List.mem_cons_self))]; exact e
end
end MP


set_option Elab.async false
set_option linter.all false
set_option maxRecDepth 100000
set_option maxHeartbeats 4000000
/-! MPS2: set(list of texts), set(tuple of texts), sorted(a set of texts), len(a set of texts) -/
namespace MP
variable [Wd]
open PySem PySem.Spec PyProof.Rows L2
section
variable {prog : Program} {w : World} {A : Around} {E : Value → Shared → Prop} {s : Shared}
abbrev newSet (w : World) : Obj := { cls := .type "set", dict := none, data := .set #[] 0 (.fresh 0 0 (!w.params.followText "set-order")) }
theorem setS_fresh {h : Heap} (w : World) : SetS w [] h.objs.size (h.push (newSet w)) :=
  ⟨_, #[], 0, _, Heap.get?_push_size _ rfl, ⟨rfl, rfl, rfl⟩, rfl, (fun e he => by simp at he), (by simp), .nil, (by decide), (by rfl), List.Pairwise.nil, by
    show _ ∨ (!w.params.followText "set-order") = true
    cases w.params.followText "set-order"
    · exact .inr rfl
    · exact .inl rfl⟩
theorem code_set_led1 (x : Value) {Q₁ : Value → Shared → Prop} (h : Q₁ (.ref s.heap.objs.size) { s with heap := s.heap.push (newSet w) }) :
    codeAny (model prog w) A (.call (.builtin "set.__new__") ⟨[.type "set", x], []⟩) (wants Q₁ E) s := by
  refine codeAny_of_tree ?_
  show wpAny _ A.in1 (do checkBuiltinCall "set.__new__" ⟨[.type "set", x], []⟩; again (.builtin "set.__new__" ⟨[.type "set", x], []⟩)) _ _ s
  refine wpAny_bind (wpAny_of_eq (PySem.F.newCall_set_1 x) (wpAny_pure ⟨plainId_quiet PySem.F.plain_set_new _, codeAny_builtin PySem.F.entry_set_new ?_⟩))
  rw [Around.under_plainId PySem.F.plain_set_new _]
  unfold Builtin.«set.__new__» Builtin.Frozenset.newClass
  have hsub := sub_set_self
  obtain ⟨hp, g, d, tk, os⟩ := s
  dsimp only
  wp_walk
  refine wpAny_askSetting (wpAny_pure ?_)
  dsimp only
  simp only [newObj]
  refine wpAny_bind (wpAny_alloc (wpAny_pure ?_))
  exact wpAny_pure h
/-- set(x), by what set.__init__ makes of x -/
theorem set_by {x : Value} {Q : Value → Shared → Prop} {Ψ : Heap → Prop}
    (hin : ∀ R : Fin → Shared → Prop, (∀ h' tk, Ψ h' → R (.done (.ret .none)) { s with heap := h', toks := tk }) → wpAny (model prog w) A.in1.in1 (Builtin.«set.__init__» ⟨[.ref s.heap.objs.size, x], []⟩) R E { s with heap := s.heap.push (newSet w) })
    (h : ∀ h' tk, Ψ h' → Q (.ref s.heap.objs.size) { s with heap := h', toks := tk }) : wpAny (model prog w) A (call (.type "set") [x]) Q E s := by
  obtain ⟨c, tl, hmro⟩ := PySem.F.called_set.mro
  have hmade := PySem.F.called_set.made
  have hsub := PySem.F.called_set.sub
  refine wpAny_call (codeAny_of_tree ?_)
  show wpAny _ _ (callAny (.type "set") _) _ _ _
  refine wpAny_pure ⟨Code.quiet_builtin _ (by decide +kernel), codeAny_builtin PySem.F.entry_type_call ?_⟩
  rw [Around.under_plain (weight_type_call_type "set" [x] []) rfl]
  have h1 := PySem.F.called_set.notType
  have h2 := PySem.F.called_set.canCreate
  have hct := PySem.F.typeCall_set_1 x
  repeat (any_goals (first | assumption | wp_step))
  refine codeAny_mono (code_set_led1 x (E := E) (Q₁ := fun obj s₁ => obj = .ref s.heap.objs.size ∧ s₁ = { s with heap := s.heap.push (newSet w) }) ⟨rfl, rfl⟩) fun r s₁ hr => ?_
  cases r with
  | error e => exact hr
  | ok fl =>
    cases fl with
    | ret obj =>
      obtain ⟨rfl, rfl⟩ := hr
      have hS : (s.heap.push (newSet w)).get? s.heap.objs.size = some (newSet w) := Heap.get?_push_size _ rfl
      have hT : Shared.TypeIs { s with heap := s.heap.push (newSet w) } (.ref s.heap.objs.size) "set" := ⟨_, hS, rfl⟩
      have hli := PySem.F.called_set.init.lookup
      have hbi := PySem.F.called_set.init.bind (.ref s.heap.objs.size)
      repeat (any_goals (first | assumption | wp_step))
      refine codeAny_mono (codeAny_call_builtin (R := wants (fun r s₂ => r = .none ∧ ∃ h' tk, s₂ = { s with heap := h', toks := tk } ∧ Ψ h') E) PySem.F.called_set.init.plain PySem.F.entry_set_init (check_set_init_1 hT ?_)) fun r₂ s₂ hr₂ => ?_
      · refine hin _ fun h' tk p => ?_
        exact ⟨rfl, h', tk, rfl, p⟩
      · cases r₂ with
        | error e => exact hr₂
        | ok fl₂ =>
          cases fl₂ with
          | ret r =>
            obtain ⟨rfl, h', tk, rfl, p⟩ := hr₂
            repeat (any_goals (first | assumption | wp_step))
            exact h _ _ p
          | _ => exact hr₂.elim
    | _ => exact hr.elim
/-- the sets of texts that set.__init__ lays down -/
def InitS (w : World) (s : Shared) (xs : List Str) : Heap → Prop := fun h' => SetS w (ddS xs) s.heap.objs.size h' ∧ ∀ b o, b < s.heap.objs.size → s.heap.get? b = some o → h'.get? b = some o
theorem init_fin {R : Fin → Shared → Prop} {xs : List Str} {I : Addr} {G : Array GenState → Array GenState → Prop} {s' : Shared} {ob : Obj} (hI : I = s.heap.objs.size + 1) (eg : s'.gens = s.gens) (ed : s'.drawn = s.drawn) (eo : s'.os = s.os)
    (hk : ∀ b o, b ∉ [s.heap.objs.size, I] → ((s.heap.push (newSet w)).push ob).get? b = some o → s'.heap.get? b = some o) (hS' : SetS w (ddS xs) s.heap.objs.size s'.heap)
    (hR : ∀ h' tk, InitS w s xs h' → R (.done (.ret .none)) { s with heap := h', toks := tk }) : R (.done (.ret .none)) s' := by
  obtain ⟨h', g', d', tk', os'⟩ := s'
  cases eg
  cases ed
  cases eo
  refine hR h' tk' ⟨hS', fun b o hb e => hk b o ?_ (Heap.get?_push_of_some _ (Heap.get?_push_of_some _ e))⟩
  subst hI
  simp only [List.mem_cons, List.not_mem_nil, or_false, not_or]
  exact ⟨Nat.ne_of_lt hb, Nat.ne_of_lt (Nat.lt_succ_of_lt hb)⟩
theorem initS_list {l : Addr} {items : Array Value} {xs : List Str} (hh : A.handled = none) (hl : s.heap.IsList l items) (hi : StrsAre items.toList xs) (hb : items.size + 1 < scanBound) (R : Fin → Shared → Prop)
    (hR : ∀ h' tk, InitS w s xs h' → R (.done (.ret .none)) { s with heap := h', toks := tk }) : wpAny (model prog w) A.in1.in1 (Builtin.«set.__init__» ⟨[.ref s.heap.objs.size, .ref l], []⟩) R E { s with heap := s.heap.push (newSet w) } := by
  obtain ⟨ol, hol, hcl, nl, hdl⟩ := hl
  obtain ⟨ocls, odict, odata, oslots⟩ := ol
  simp only at hcl hdl
  subst hcl hdl
  have hS : (s.heap.push (newSet w)).get? s.heap.objs.size = some (newSet w) := Heap.get?_push_size _ rfl
  have hol' : (s.heap.push (newSet w)).get? l = some { cls := .type "list", dict := odict, data := .seq items nl, slots := oslots } := Heap.get?_push_of_some _ hol
  have hsls := PySem.F.sub_list_set
  have hslf := PySem.F.sub_list_frozenset
  have hne : (Value.type "list" == Value.type "dict") = false := by decide
  have hl1 : (s.heap.push (newSet w)).IsList l items := ⟨_, hol', rfl, nl, rfl⟩
  unfold Builtin.«set.__init__» noKeywords Builtin.Frozenset.updateFrom
  generalize hPI : pyIter = PI
  wp_walk
  subst hPI
  refine wpAny_pyIter_list hl1 ?_
  refine wpAny_bind (wpAny_runValue ?_)
  have hlS : l < s.heap.objs.size := Heap.lt_size hol
  have hh3 : A.in1.in1.in1.handled = none := by simp [hh]
  have hsz1 : (s.heap.push (newSet w)).objs.size = s.heap.objs.size + 1 := Heap.size_push _ _
  have hsz : xs.length = items.size := by rw [← StrsAre.len_eq hi, Array.length_toList]
  refine loopS ((Walks.list hh3 _ l (by rw [hsz1]; exact Nat.ne_of_lt (Nat.lt_succ_of_lt hlS)) items).toS) s.heap.objs.size (by rw [hsz1]; simp only [List.mem_cons, List.not_mem_nil, or_false, not_or]; exact ⟨Nat.ne_of_lt (Nat.lt_succ_self _), Nat.ne_of_gt hlS⟩) xs hsz hb (fun i v hv => SS.strs_at hi i v (by rw [Array.getElem?_toList]; exact hv))
    (items.size - 0) 0 _ (by omega) (Nat.zero_le _) ⟨⟨_, Heap.get?_push_size _ rfl, rfl, rfl⟩, (hl1.push _)⟩ ((setS_fresh w).at fun o e => Heap.get?_push_of_some _ e) fun s' hm hS' => ?_
  show wpAny _ _ _ _ _ _
  refine wpAny_pure ?_
  show wpAny _ _ (ret Value.none) _ _ _
  exact wpAny_pure (init_fin (G := fun _ _ => True) hsz1 hm.gens hm.drawn hm.os hm.heap hS' hR)
theorem initS_tuple {l : Addr} {items : Array Value} {xs : List Str} (hh : A.handled = none) (hl : s.heap.IsTuple l items) (hi : StrsAre items.toList xs) (hb : items.size + 1 < scanBound) (R : Fin → Shared → Prop)
    (hR : ∀ h' tk, InitS w s xs h' → R (.done (.ret .none)) { s with heap := h', toks := tk }) : wpAny (model prog w) A.in1.in1 (Builtin.«set.__init__» ⟨[.ref s.heap.objs.size, .ref l], []⟩) R E { s with heap := s.heap.push (newSet w) } := by
  obtain ⟨ol, hol, hcl, nl, hdl⟩ := hl
  obtain ⟨ocls, odict, odata, oslots⟩ := ol
  simp only at hcl hdl
  subst hcl hdl
  have hS : (s.heap.push (newSet w)).get? s.heap.objs.size = some (newSet w) := Heap.get?_push_size _ rfl
  have hol' : (s.heap.push (newSet w)).get? l = some { cls := .type "tuple", dict := odict, data := .seq items nl, slots := oslots } := Heap.get?_push_of_some _ hol
  have hsls := PySem.F.sub_tuple_set
  have hslf := PySem.F.sub_tuple_frozenset
  have hne : (Value.type "tuple" == Value.type "dict") = false := by decide
  have hl1 : (s.heap.push (newSet w)).IsTuple l items := ⟨_, hol', rfl, nl, rfl⟩
  unfold Builtin.«set.__init__» noKeywords Builtin.Frozenset.updateFrom
  generalize hPI : pyIter = PI
  wp_walk
  subst hPI
  refine wpAny_pyIter_tuple hl1 ?_
  refine wpAny_bind (wpAny_runValue ?_)
  have hlS : l < s.heap.objs.size := Heap.lt_size hol
  have hh3 : A.in1.in1.in1.handled = none := by simp [hh]
  have hsz1 : (s.heap.push (newSet w)).objs.size = s.heap.objs.size + 1 := Heap.size_push _ _
  have hsz : xs.length = items.size := by rw [← StrsAre.len_eq hi, Array.length_toList]
  refine loopS ((Walks.tuple hh3 _ l (by rw [hsz1]; exact Nat.ne_of_lt (Nat.lt_succ_of_lt hlS)) items).toS) s.heap.objs.size (by rw [hsz1]; simp only [List.mem_cons, List.not_mem_nil, or_false, not_or]; exact ⟨Nat.ne_of_lt (Nat.lt_succ_self _), Nat.ne_of_gt hlS⟩) xs hsz hb (fun i v hv => SS.strs_at hi i v (by rw [Array.getElem?_toList]; exact hv))
    (items.size - 0) 0 _ (by omega) (Nat.zero_le _) ⟨⟨_, Heap.get?_push_size _ rfl, rfl, rfl⟩, (hl1.push _)⟩ ((setS_fresh w).at fun o e => Heap.get?_push_of_some _ e) fun s' hm hS' => ?_
  show wpAny _ _ _ _ _ _
  refine wpAny_pure ?_
  show wpAny _ _ (ret Value.none) _ _ _
  exact wpAny_pure (init_fin (G := fun _ _ => True) hsz1 hm.gens hm.drawn hm.os hm.heap hS' hR)
/-- the texts behind a list of values -/
theorem strs_perm {vs : List Value} {l : List (Int × Value)} {ks : List Str} (g : ∀ e ∈ l, okS w e) (pm : vs.Perm (l.map (·.2))) (hk : (l.map kS).Perm ks) : ∃ ss, StrsAre vs ss ∧ ss.Perm ks := by
  have go : ∀ us : List Value, (∀ u ∈ us, ∃ k t, u = Value.str k t) → StrsAre us (us.map fun u => match u with | .str k _ => k | _ => Str.empty) := fun us => by
    induction us with
    | nil => intro _; exact .nil
    | cons u us ih =>
      intro h
      obtain ⟨k, t, rfl⟩ := h u List.mem_cons_self
      exact .cons k t (ih fun x hx => h x (List.mem_cons_of_mem _ hx))
  refine ⟨_, go vs fun u hu => ?_, ?_⟩
  · obtain ⟨e, he, q⟩ := List.mem_map.mp (pm.mem_iff.mp hu)
    obtain ⟨k, t, h1, _⟩ := g e he
    exact ⟨k, t, by rw [← q, h1]⟩
  · have q := pm.map fun u => (match u with | .str k _ => k | _ => Str.empty : Str)
    rw [List.map_map] at q
    exact q.trans hk
theorem sortedS_of {a : Addr} {ks : List Str} {Q : Value → Shared → Prop} (R : SetS w ks a s.heap) (hh : A.handled = none)
    (hQ : ∀ s' p (out : Array Value) (c : Nat) (ss : List Str), (∀ b o, s.heap.get? b = some o → s'.heap.get? b = some o) → s'.gens = s.gens → s'.os = s.os → s.heap.objs.size ≤ p →
      s'.heap.get? p = some (seqObj "list" out c) → StrsAre out.toList ss → ss.Perm ks → sortedS ss = true → Q (.ref p) s') :
    wpAny (model prog w) A (call (.builtin "sorted") [.ref a]) Q E s := by
  obtain ⟨o, es, ep, t, ho, hex, hd, g, hm, nd, hb, hf, hr, hl⟩ := R
  refine Calls.call_function_entry kind_sorted plain_sorted entry_sorted (args_sorted1 _) ?_
  unfold Builtin.«sorted»
  refine wpAny_bind (m := checkCount "sorted" 1 1 _) (wpAny_pure ?_)
  refine wpAny_bind (collect_set (A := A.in1) hh ⟨o, ho, hex.1, hd⟩ hf hb hr hl fun s1 vs k1 hz g1 o1 pm => ?_)
  obtain ⟨ss, hS, hp⟩ := strs_perm g pm hm
  have hvl : vs.length ≤ sizeLine := by
    rw [pm.length_eq, List.length_map, Array.length_toList, sizeLine_eq]
    unfold scanBound at hb
    omega
  refine wpAny_bind (wpAny_newList ?_ hvl)
  have hoL : (s1.heap.push (seqObj "list" vs.toArray 0)).get? s1.heap.objs.size = some (seqObj "list" vs.toArray 0) := Heap.get?_push_size _ rfl
  refine wpAny_bind (wpAny_holding (wpAny_call_entry slot_list_sort ⟨_, hoL, rfl⟩ entry_list_sort (list_sort_treeKAny strKind_oneLt hoL hS.keysOf (fun v₁ v₂ rest e => keyKind_strs (by rw [← e]; exact hS)) hvl fun st' hpp hs => ⟨_, rfl, ?_⟩) (args_list_sort _)))
  obtain ⟨ss', h1, h2, h3⟩ := sorted_out_str hS hpp hs
  obtain ⟨c, hc⟩ := sortedHeap_at (vs := vs) (out := (arrOf st').map (·.2)) hoL
  refine wpAny_pure ⟨_, rfl, hQ _ s1.heap.objs.size _ c ss' (fun b u e => ?_) g1 o1 hz hc h1 (h2.trans hp) h3⟩
  have q := k1 b u e
  have hlt := Heap.lt_size q
  show (sortedHeap (s1.heap.push (seqObj "list" vs.toArray 0)) s1.heap.objs.size vs _).get? b = some u
  rw [sortedHeap_old (Nat.ne_of_lt hlt) (by rw [size_push']; exact Nat.lt_succ_of_lt hlt)]
  exact Heap.get?_push_of_some _ q
end
end MP


set_option Elab.async false
set_option linter.all false
set_option maxRecDepth 100000
set_option maxHeartbeats 4000000
/-! MPS3: sorted(set(x)), len(set(x)), sorted(texts), join -/
namespace MP
variable [Wd]
open PySem PySem.Spec PyProof.Rows L2
/-! ### the one order of texts -/
def leS (x y : Str) : Prop := x.cps.toList ≤ y.cps.toList
instance (x y : Str) : Decidable (leS x y) := by unfold leS; infer_instance
theorem leS_trans {x y z : Str} (a : leS x y) (b : leS y z) : leS x z := List.le_trans a b
theorem leS_total (x y : Str) : leS x y ∨ leS y x := List.le_total _ _
theorem leS_anti {x y : Str} (a : leS x y) (b : leS y x) : x = y := by
  obtain ⟨⟨l⟩⟩ := x
  obtain ⟨⟨m⟩⟩ := y
  have h : l = m := List.le_antisymm (show l ≤ m from a) (show m ≤ l from b)
  rw [h]
def insS (x : Str) : List Str → List Str
  | [] => [x]
  | y :: l => if leS x y then x :: y :: l else y :: insS x l
def srt : List Str → List Str
  | [] => []
  | x :: l => insS x (srt l)
theorem insS_perm (x : Str) : ∀ l, (insS x l).Perm (x :: l)
  | [] => .refl _
  | y :: l => by
    unfold insS
    split
    · exact .refl _
    · exact ((insS_perm x l).cons y).trans (.swap x y l)
theorem srt_perm : ∀ l, (srt l).Perm l
  | [] => .refl _
  | x :: l => (insS_perm x _).trans ((srt_perm l).cons x)
theorem insS_le {x z : Str} (hz : leS z x) : ∀ {l : List Str}, (∀ y ∈ l, leS z y) → ∀ y ∈ insS x l, leS z y := fun {l} h y hy => by
  have := (insS_perm x l).mem_iff.mp hy
  rcases List.mem_cons.mp this with e | e
  · rw [e]; exact hz
  · exact h y e
theorem insS_pw (x : Str) : ∀ {l : List Str}, l.Pairwise leS → (insS x l).Pairwise leS
  | [], _ => .cons (fun _ h => nomatch h) .nil
  | y :: l, h => by
    obtain ⟨h1, h2⟩ := List.pairwise_cons.mp h
    unfold insS
    split
    · rename_i q
      exact .cons (fun z hz => (List.mem_cons.mp hz).elim (fun e => e ▸ q) fun e => leS_trans q (h1 z e)) h
    · rename_i q
      exact .cons (insS_le ((leS_total x y).resolve_left q) h1) (insS_pw x h2)
theorem srt_pw : ∀ l, (srt l).Pairwise leS
  | [] => .nil
  | x :: l => insS_pw x (srt_pw l)
theorem rising_pw : ∀ (l : List Str) (p : Str), risingS p l = true → (p :: l).Pairwise leS
  | [], p, _ => .cons (fun _ h => nomatch h) .nil
  | x :: l, p, h => by
    have e : risingS p (x :: l) = (if ltCps x.cps.toList p.cps.toList = true then false else risingS x l) := by
      cases q : ltCps x.cps.toList p.cps.toList <;> simp [risingS, q]
    rw [e] at h
    split at h
    · cases h
    · rename_i q
      rw [ltCps_eq, decide_eq_true_eq] at q
      have ih := rising_pw l x h
      have hpx : leS p x := List.not_lt.mp q
      exact .cons (fun z hz => (List.mem_cons.mp hz).elim (fun e => e ▸ hpx) fun e => leS_trans hpx ((List.pairwise_cons.mp ih).1 z e)) ih
theorem sorted_pw {l : List Str} (h : sortedS l = true) : l.Pairwise leS := by
  cases l with
  | nil => exact .nil
  | cons x l => exact rising_pw l x h
theorem sorted_eq {l m : List Str} (h : sortedS l = true) (p : l.Perm m) : l = srt m :=
  List.Perm.eq_of_pairwise (fun a b _ _ => leS_anti) (sorted_pw h) (srt_pw m) (p.trans (srt_perm m).symm)
theorem srt_congr {l m : List Str} (p : l.Perm m) : srt l = srt m :=
  List.Perm.eq_of_pairwise (fun a b _ _ => leS_anti) (srt_pw l) (srt_pw m) ((srt_perm l).trans (p.trans (srt_perm m).symm))
/-! ### texts among the values -/
def txts? : List D → Option (List Str)
  | [] => some []
  | .str s :: r => (txts? r).map (s :: ·)
  | _ :: _ => none
theorem txts_rp {K : PySem.W.Frag} {Z : Hp} {ι : List Addr} : ∀ {xs : List V} {ds : List D} {ss : List Str}, RpL K Z ι xs ds → txts? ds = some ss → xs = ss.map V.str
  | _, _, _, .nil, e => by cases e; rfl
  | _, _, _, .cons h q, e => by
    cases h with
    | @str s =>
      rename_i ds
      unfold txts? at e
      cases e2 : txts? ds with
      | none => rw [e2] at e; cases e
      | some t => rw [e2] at e; cases e; rw [txts_rp q e2]; rfl
    | _ => cases e
theorem strs_rp {K : PySem.W.Frag} {Z : Hp} {ι : List Addr} : ∀ ss : List Str, RpL K Z ι (ss.map V.str) (ss.map D.str)
  | [] => .nil
  | s :: ss => .cons (.str s) (strs_rp ss)
@[simp] theorem txts_map (ss : List Str) : txts? (ss.map D.str) = some ss := by
  induction ss with
  | nil => rfl
  | cons s ss ih => simp [txts?, ih]
/-! ### the rules below -/
def SetO' (w : World) (ks : List Str) (a : Addr) : HO := .ext (SetS w ks a)
section
variable {X : Cx}
theorem setO'_new {w : World} {P : Program} {H : Hp} {h : Heap} {a : Addr} {ks : List Str} (R : SetS w ks a h) : ObjOk P w H h a (SetO' w ks a) :=
  ⟨R, (let ⟨o, _, _, _, ho, _⟩ := R; ⟨o, ho⟩), fun h1 h2 p k => SetS.at p k⟩
def rSetS (K : PySem.W.Frag) (w : World) : List V → Hp → VK → Prop := fun xs H Q => ∃ (l : Addr) (ys : List Str), xs = [V.ref l] ∧ (SqL K H l (ys.map V.str) ∨ SqT K H l (ys.map V.str)) ∧ ys.length < 4000 ∧
  ∀ p, H p = none → Q (.ref p) (upd H p (SetO' w (ddS ys) p))
theorem cr_setS (hc : X.calm = true) : CallR X (.type "set") (rSetS X.K X.w) := by
  intro pins s σ H xs us Q I r h
  obtain ⟨l, ys, rfl, hq, hl, q⟩ := h
  rw [Vals.ref1 r]
  have hb : ∀ its : List Value, its.length = ys.length → its.toArray.size + 1 < scanBound := fun its e => by rw [List.size_toArray, e]; unfold scanBound; omega
  have fin : ∀ h' tk, InitS X.w s ys h' → EP X pins σ Q (.ref s.heap.objs.size) { s with heap := h', toks := tk } := fun h' tk p => by
    refine ⟨.ref s.heap.objs.size, upd H s.heap.objs.size (SetO' X.w (ddS ys) s.heap.objs.size), ?_, rfl, q _ (I.hok.fresh (Nat.le_refl _))⟩
    exact I.laid (a := s.heap.objs.size) (o := SetO' X.w (ddS ys) s.heap.objs.size) (t' := tk) (fun b o e => p.2 b o (Heap.lt_size e) e) (Nat.le_refl _) (setO'_new p.1)
  rcases hq with hq | hq
  · obtain ⟨its, rv, pl, hz⟩ := I.list hq
    have hs := strs_of_vals rv
    exact set_by (Ψ := InitS X.w s ys) (fun R hR => initS_list (I.ok.hd hc) pl.isList (by simpa using hs) (hb its (by rw [hs.len_eq])) R hR) fin
  · obtain ⟨its, rv, pl, hz⟩ := I.tuple hq
    have hs := strs_of_vals rv
    exact set_by (Ψ := InitS X.w s ys) (fun R hR => initS_tuple (I.ok.hd hc) pl (by simpa using hs) (hb its (by rw [hs.len_eq])) R hR) fin
def rSortO (w : World) : List V → Hp → VK → Prop := fun vs H Q => ∃ (a : Addr) (ks : List Str), vs = [V.ref a] ∧ H a = some (SetO' w ks a) ∧ ks.length < 4000 ∧ ∀ p, H p = none → Q (.ref p) (upd H p (.lst ((srt ks).map V.str)))
theorem cr_sortO (hc : X.calm = true) : CallR X (.builtin "sorted") (rSortO X.w) := by
  intro pins s σ H vs us Q I r h
  obtain ⟨a, ks, rfl, ha, hn, q⟩ := h
  rw [Vals.ref1 r]
  have R : SetS X.w ks a s.heap := (I.hok a _ ha).1
  refine sortedS_of R (I.ok.hd hc) fun s' p out c ss k g o hp hg hi hpm hs => ?_
  have es : ss = srt ks := sorted_eq hs hpm
  subst es
  have hlen : ((srt ks).map V.str).length ≤ sizeLine := by rw [List.length_map, hpm.length_eq, sizeLine_eq]; omega
  have hn : H p = none := I.hok.fresh hp
  have J : Inv X pins σ (upd H p (.lst ((srt ks).map V.str))) { s with heap := s'.heap, gens := s'.gens, drawn := s'.drawn, toks := s'.toks } :=
    I.call (ch := []) (Un.laid k hp hn) (I.hok.laid k hp ⟨hlen, out.toList, c, vals_of_strs hi, hg⟩) (by rw [g]; exact I.bare) (fun _ z => nomatch z)
  have e : s' = { s with heap := s'.heap, gens := s'.gens, drawn := s'.drawn, toks := s'.toks } := by
    obtain ⟨h', g', d', tk', os'⟩ := s'
    cases o
    rfl
  rw [e]
  exact ⟨.ref p, _, J, rfl, q p hn⟩
end
/-! ### readings -/
def txtsOf (s : Sto) (x : D) : Option (List Str) := match (items? s x).bind txts? with
  | some ss => if ss.length < 4000 then some ss else none
  | none => none
theorem txtsOf_inv {s : Sto} {x : D} {ss : List Str} (h : txtsOf s x = some ss) : ∃ ds, items? s x = some ds ∧ txts? ds = some ss ∧ ss.length < 4000 := by
  unfold txtsOf at h
  cases h1 : items? s x with
  | none => rw [h1] at h; cases h
  | some ds =>
    rw [h1] at h
    cases h2 : txts? ds with
    | none => simp [h2] at h
    | some t =>
      simp [h2] at h
      obtain ⟨h3, rfl⟩ := h
      exact ⟨ds, rfl, h2, h3⟩
def mSortSet (a : ME) : ME := fun ρ s => bnd (a ρ s) fun x s => match txtsOf s x with
  | some ss => some (.ok (.lst ((srt (ddS ss)).map .str)) s)
  | none => none
def mSortSetB (a : ME) : ME := fun ρ s => bnd (a ρ s) fun x s => match txtsOf s x with
  | some ss => some (.ok (.ref s.length) (s ++ [.lst ((srt (ddS ss)).map .str)]))
  | none => none
def mLenSet (a : ME) : ME := fun ρ s => bnd (a ρ s) fun x s => match txtsOf s x with
  | some ss => some (.ok (.int (ddS ss).length) s)
  | none => none
section
variable {X : Cx} {W : WX} {e : Expr} {p pos p2 pos2 : Pos} {me : ME}
theorem set_read {Q : V → Hp → Prop} {H1 Z1 : Hp} {ι1 : List Addr} {st1 : Sto} {v : V} {x : D} {ss : List Str} (r1 : Rel X.K st1 H1 Z1 ι1) (rx : Rp X.K Z1 ι1 v x) (hx : txtsOf st1 x = some ss)
    (k : ∀ p, H1 p = none → Q (.ref p) (upd H1 p (SetO' X.w (ddS ss) p))) : rSetS X.K X.w [v] H1 Q := by
  obtain ⟨ds, hi, ht, hl⟩ := txtsOf_inv hx
  obtain ⟨a, xs, rfl, hq, hr⟩ := items_sq r1 rx hi
  have e := txts_rp hr ht
  subst e
  exact ⟨a, ss, rfl, hq.elim .inr fun q => .inl (SqL.of q), hl, k⟩
theorem pe_setS (hc : X.calm = true) (hms : X.mg "set" = none) (h : Sd X W e me) (hg : Gl X "set" := by rfl)
    (he : starEach [e] X.env = (false, eval e X.env) :: starEach [] X.env := by rfl) (hpl : (backTo pos (starEach [] X.env)).any (·.1) = false := by rfl) :
    PE X (.Call (.Name "set" p) [e] [] pos) (tCB (rSetS X.K X.w) (tCons (rd X.K W me) tNil)) := pe_callTy (cr_setS hc) hg hms (by rfl) (pa_cons h pa_nil he) (by decide) (by decide) he hpl
theorem sd_sortSet (hc : X.calm = true) (hms : X.mg "set" = none) (hmo : X.mg "sorted" = none) (h : Sd X W e me) (hg : Gl X "set" := by rfl) (hg2 : Gl X "sorted" := by rfl)
    (he : starEach [e] X.env = (false, eval e X.env) :: starEach [] X.env := by rfl) (hpl : (backTo pos (starEach [] X.env)).any (·.1) = false := by rfl)
    (he2 : starEach [.Call (.Name "set" p) [e] [] pos] X.env = (false, eval (.Call (.Name "set" p) [e] [] pos) X.env) :: starEach [] X.env := by rfl) (hpl2 : (backTo pos2 (starEach [] X.env)).any (·.1) = false := by rfl) :
    Sd X W (.Call (.Name "sorted" p2) [.Call (.Name "set" p) [e] [] pos] [] pos2) (mSortSet me) := by
  refine pe_imp (pe_callB (cr_sortO hc) hg2 hmo (by rfl) (pa_cons (pe_setS (p := p) (pos := pos) hc hms h hg he hpl) pa_nil he2) (by decide) (by decide) he2 hpl2) fun σ H Q ⟨ρ, st, Z, ι, en, r0, p⟩ => ?_
  refine rdG.mono (kont en r0 p) fun v H1 ⟨st1, Z1, ι1, x, g1, e1, r1, rx, p1⟩ => ?_
  cases hx : txtsOf st1 x with
  | none => rw [hx] at p1; exact p1.elim
  | some ss =>
    rw [hx] at p1
    refine (show rSetS X.K X.w [v] H1 (fun x H1 => rSortO X.w [x] H1 Q) from set_read r1 rx hx fun n hn => ?_)
    obtain ⟨r2, g2⟩ := r1.junk (o := SetO' X.w (ddS ss) n) hn
    have hl : (ddS ss).length < 4000 := Nat.lt_of_le_of_lt (ddS_len ss) (txtsOf_inv hx).choose_spec.2.2
    refine ⟨n, ddS ss, rfl, upd_same, hl, fun m hm => ?_⟩
    obtain ⟨r3, g3⟩ := r2.zone (o := .lst ((srt (ddS ss)).map V.str)) hm
    exact p1 _ _ _ _ (g2.trans g3) r3 (.lst upd_same (strs_rp _))
end
/-- sep.join(x) -/
def bJoin (s : Sto) (x : D) : List D → Option (D × Sto)
  | [y] => match x, (items? s y).bind txts? with
    | .str a, some ss => if (ss.map (·.length)).sum + ss.length * a.length ≤ 16777216 then some (.str (Txt.join a ss), s) else none
    | _, _ => none
  | _ => none
theorem ms_join {K : PySem.W.Frag} : MethS K bJoin (fun x xs H Q => ∃ a p, ∃ ys : List Str, x = .str a ∧ xs = [.ref p] ∧ (SqL K H p (ys.map V.str) ∨ SqT K H p (ys.map V.str)) ∧ (ys.map (·.length)).sum + ys.length * a.length ≤ 16777216 ∧ Q (.str (Txt.join a ys)) H) := fun st st' x ds d v vs H Z ι Q hf r hx hv k => by
  cases hv with
  | nil => cases hf
  | @cons u _ y _ h q => cases q with
    | cons _ _ => cases hf
    | nil =>
      cases hx with
      | str a =>
        unfold bJoin at hf
        cases h1 : items? st y with
        | none => simp [h1] at hf
        | some ds => cases h2 : txts? ds with
          | none => simp [h1, h2] at hf
          | some ss =>
            simp [h1, h2] at hf
            obtain ⟨hl, rfl, rfl⟩ := hf
            obtain ⟨b, xs, rfl, hq, hr⟩ := items_sq r h h1
            have e := txts_rp hr h2
            subst e
            exact ⟨a, b, ss, rfl, rfl, hq.elim .inr fun q => .inl (SqL.of q), hl, k _ _ _ _ (Grow.refl _ _ _) r (.str _)⟩
      | _ => simp [bJoin] at hf
/-- sorted(x), x a list of texts -/
def gSortS (s : Sto) : List D → Option D
  | [x] => match (lst? s x).bind txts? with
    | some ss => if ss.length < 64 then some (.lst ((srt ss).map .str)) else none
    | none => none
  | _ => none
theorem cs_sortS {K : PySem.W.Frag} : CallS K (pu gSortS) (rSortedS K) := fun st st' ds d vs H Z ι Q hf r hv k => by
  obtain ⟨hf, rfl⟩ := pu_inv hf
  cases hv with
  | nil => cases hf
  | @cons v _ x _ h q => cases q with
    | cons _ _ => cases hf
    | nil =>
      unfold gSortS at hf
      cases h1 : lst? st' x with
      | none => simp [h1] at hf
      | some ds => cases h2 : txts? ds with
        | none => simp [h1, h2] at hf
        | some ss =>
          simp [h1, h2] at hf
          obtain ⟨hl, rfl⟩ := hf
          obtain ⟨a, xs, rfl, hH, hr⟩ := lst_sq r h h1
          have e := txts_rp hr h2
          subst e
          refine ⟨a, ss, rfl, SqL.of hH, hl, fun ys p hp hs hn => ?_⟩
          have e := sorted_eq hs hp
          subst e
          obtain ⟨r2, g2⟩ := r.zone (o := .lst ((srt ss).map V.str)) hn
          exact k _ _ _ _ g2 r2 (.lst upd_same (strs_rp _))
end MP


set_option Elab.async false
set_option linter.all false
set_option maxRecDepth 100000
set_option maxHeartbeats 4000000
/-! MPA: isinstance, dicts, written tables, repr -/
namespace MP
variable [Wd]
open PySem L2

/-! ### isinstance -/
inductive Kd where
  | t (s : String) | o (C : Str)
def kdD (s : Sto) : D → Option Kd
  | .non => some (.t "NoneType")
  | .bl _ => some (.t "bool")
  | .int _ => some (.t "int")
  | .str _ => some (.t "str")
  | .lst _ => some (.t "list")
  | .tup _ => some (.t "tuple")
  | .dct _ _ => some (.t "dict")
  | .scr _ => some (.t "list")
  | .ref n => match s[n]? with
    | some (.lst _) => some (.t "list")
    | some (.dct _) => some (.t "dict")
    | some (.ins C _) => some (.o C)
    | _ => none
def kdV (K : PySem.W.Frag) : Kd → Value
  | .t s => .type s
  | .o C => .ref (He.ga K C)
structure OwnOk (K : PySem.W.Frag) (C : Str) : Prop where
  cl : Cls K (He.ga K C)
  ha : PySem.W.findIn K (.ref (He.ga K C)) "__class__" = some (some (.builtin "object.__class__"))
  hn : PySem.W.specialIn K (.builtin "object.__class__") "__get__" = some (some (.builtin "getset_descriptor.__get__"))
  htk : PySem.W.takesIn K (.builtin "object.__class__") = some true
  hm : PySem.W.mroIn K (He.ga K C) (.type "object") = some true
def bNames : List String := ["NoneType", "bool", "int", "str", "list", "tuple", "dict"]
theorem kd_names {s : Sto} {d : D} {t : String} (h : kdD s d = some (.t t)) : t ∈ bNames := by
  cases d <;> unfold kdD at h
  case ref n =>
    dsimp only at h
    split at h <;> first | (cases h; done) | (injection h with h; injection h with h; subst h; decide)
  all_goals (injection h with h; injection h with h; subst h; decide)
theorem ty_of {K : PySem.W.Frag} {st : Sto} {H Z : Hp} {ι : List Addr} {v : V} {d : D} {k : Kd} (r : Rel K st H Z ι) (h : Rp K Z ι v d) (hk : kdD st d = some k) (ho : ∀ C, k = .o C → OwnOk K C) : TyX K H v (kdV K k) := by
  cases h with
  | non => cases hk; exact .base .non
  | bl b => cases hk; exact .base (.bl b)
  | int i => cases hk; exact .base (.int i)
  | str s => cases hk; exact .base (.str s)
  | lst h _ => cases hk; exact .base (.lst (r.zin _ _ h))
  | tup h _ =>
    cases hk
    rcases same_sqt r.zin h with (h | ⟨o, h⟩) | h
    · exact .base (.tup h)
    · exact .fTuple h
    · obtain ⟨o, its, n, h1, h2, _⟩ := h
      exact .kTuple h1 h2
  | dct _ h _ => cases hk; exact .base (.dK (r.zin _ _ h))
  | scr h =>
    cases hk
    rcases same_sql r.zin h with (h | ⟨o, h⟩) | h
    · exact .base (.lst h)
    · exact .base (.frz h)
    · obtain ⟨o, its, n, h1, h2, _⟩ := h
      exact .kList h1 h2
  | @ref n a hn =>
    unfold kdD at hk
    dsimp only at hk
    obtain ⟨o, hs, hob⟩ := r.at_ hn
    rw [hs] at hk
    cases o with
    | gone => cases hk
    | dfz l => cases hk
    | dn l => cases hk
    | dnz l => cases hk
    | lst l => cases hk; obtain ⟨_, xs, e, _⟩ := hob; exact .base (.lst e)
    | dct l => cases hk; obtain ⟨_, xs, e, _⟩ := hob; exact .base (.dK e)
    | ins C fs =>
      cases hk
      obtain ⟨_, dx, gs, e, _⟩ := hob
      obtain ⟨cl, ha, hn, htk, hm⟩ := ho C rfl
      exact .base (.ins e cl ha hn htk hm)
def mIsi (f : Kd → Option Bool) (a : ME) : ME := fun ρ s => bnd (a ρ s) fun x s => match (kdD s x).bind f with
  | some b => some (.ok (.bl b) s)
  | none => none
/-- f answers isinstance with one of the classes us -/
def IsiS (K : PySem.W.Frag) (us : List Value) (f : Kd → Option Bool) : Prop := ∀ k b, f k = some b → (∀ t, k = .t t → t ∈ bNames) → PySem.W.kitAny K (kdV K k) us = some b ∧ ∀ C, k = .o C → OwnOk K C
def isB (a c : String) : Bool := a == c || (a == "bool" && c == "int")
def fB (cs : List String) : Kd → Option Bool
  | .t s => some (cs.any fun c => isB s c)
  | .o _ => none
theorem kitB_tab : ∀ a ∈ bNames, ∀ c ∈ bNames, kitB a c = some (isB a c) := by decide +kernel
theorem isiS_B {K : PySem.W.Frag} (cs : List String) (hc : ∀ c ∈ cs, c ∈ bNames) : IsiS K (cs.map Value.type) (fB cs) := fun k b h hk => by
  cases k with
  | o C => cases h
  | t s =>
    refine ⟨?_, fun C e => nomatch e⟩
    have hs := hk s rfl
    injection h with h
    subst h
    show PySem.W.kitAny K (.type s) (cs.map Value.type) = _
    induction cs with
    | nil => rfl
    | cons c cs ih =>
      rw [List.map_cons, List.any_cons]
      refine kitAny_cons (b := isB s c) (kit_ty (kitB_tab s hs c (hc c List.mem_cons_self))) (fun e => ?_) (fun e => ?_)
      · rw [e, Bool.false_or]; exact ih fun x hx => hc x (List.mem_cons_of_mem _ hx)
      · rw [e]; rfl
section
variable {X : Cx} {W : WX} {e c c1 c2 : Expr} {p pos : Pos} {me : ME} {f : Kd → Option Bool}
theorem isi_one {K : PySem.W.Frag} {t u : Value} {b : Bool} (h : PySem.W.kitAny K t [u] = some b) : PySem.W.kitOne K t u = some b := by
  unfold PySem.W.kitAny at h
  cases e : PySem.W.kitOne K t u with
  | none => rw [e] at h; cases h
  | some k => rw [e] at h; cases k <;> cases h <;> rfl
theorem sd_isi {cv : V} {u : Value} (hcv : ClsV cv u) (hf : IsiS X.K [u] f) (h : Sd X W e me) (hc : PE X c (tC cv)) (hm : X.mg "isinstance" = none) (hg : Gl X "isinstance" := by rfl)
    (he : starEach [e, c] X.env = (false, eval e X.env) :: starEach [c] X.env := by rfl) (he2 : starEach [c] X.env = (false, eval c X.env) :: starEach [] X.env := by rfl) (hpl : (backTo pos (starEach [c] X.env)).any (·.1) = false := by rfl) :
    Sd X W (.Call (.Name "isinstance" p) [e, c] [] pos) (mIsi f me) := by
  refine pe_imp (pe_callB call_isi hg hm (by rfl) (pa_cons h (pa_cons hc pa_nil he2) he) (by decide) (by decide) he hpl) fun σ H Q ⟨ρ, st, Z, ι, en, r0, p⟩ => ?_
  refine rdG.mono (kont en r0 p) fun v H1 ⟨st1, Z1, ι1, x, g1, e1, r1, rx, p1⟩ => ?_
  show rIsi X.K [v, cv] H1 Q
  cases hk : kdD st1 x with
  | none => rw [hk] at p1; exact p1.elim
  | some k =>
    rw [hk] at p1
    dsimp only [Option.bind_some] at p1
    cases hb : f k with
    | none => rw [hb] at p1; exact p1.elim
    | some b =>
      rw [hb] at p1
      obtain ⟨h1, h2⟩ := hf k b hb fun t e => kd_names (e ▸ hk)
      exact ⟨v, cv, _, u, b, rfl, hcv, ty_of r1 rx hk h2, isi_one h1, p1 _ _ _ _ (Grow.refl _ _ _) r1 (.bl b)⟩
theorem sd_isi2 {cv cw : V} {u u2 : Value} {tp : Pos} {x1} (hcv : ClsV cv u) (hcw : ClsV cw u2) (hf : IsiS X.K [u, u2] f) (h : Sd X W e me) (hc : PE X c1 (tC cv)) (hd : PE X c2 (tC cw)) (hm : X.mg "isinstance" = none) (hg : Gl X "isinstance" := by rfl)
    (he : starEach [e, .Tuple [c1, c2] x1 tp] X.env = (false, eval e X.env) :: starEach [.Tuple [c1, c2] x1 tp] X.env := by rfl) (he2 : starEach [.Tuple [c1, c2] x1 tp] X.env = (false, eval (.Tuple [c1, c2] x1 tp) X.env) :: starEach [] X.env := by rfl)
    (h3 : starEach [c1, c2] X.env = (false, eval c1 X.env) :: starEach [c2] X.env := by rfl) (h4 : starEach [c2] X.env = (false, eval c2 X.env) :: starEach [] X.env := by rfl)
    (hpl : (backTo pos (starEach [.Tuple [c1, c2] x1 tp] X.env)).any (·.1) = false := by rfl) :
    Sd X W (.Call (.Name "isinstance" p) [e, .Tuple [c1, c2] x1 tp] [] pos) (mIsi f me) := by
  refine pe_imp (pe_callB call_isiT hg hm (by rfl) (pa_cons h (pa_cons (pe_tup (pa_cons hc (pa_cons hd pa_nil h4) h3)) pa_nil he2) he) (by decide) (by decide) he hpl) fun σ H Q ⟨ρ, st, Z, ι, en, r0, p⟩ => ?_
  refine rdG.mono (kont en r0 p) fun v H1 ⟨st1, Z1, ι1, x, g1, e1, r1, rx, p1⟩ => ?_
  show [cv, cw].length ≤ sizeLine ∧ ∀ q, H1 q = none → rIsiT X.K [v, .ref q] (upd H1 q (.tup [cv, cw])) Q
  refine ⟨by rw [sizeLine_eq]; show 2 ≤ 16777216; omega, fun q hq => ?_⟩
  cases hk : kdD st1 x with
  | none => rw [hk] at p1; exact p1.elim
  | some k =>
    rw [hk] at p1
    dsimp only [Option.bind_some] at p1
    cases hb : f k with
    | none => rw [hb] at p1; exact p1.elim
    | some b =>
      rw [hb] at p1
      obtain ⟨h1, h2⟩ := hf k b hb fun t e => kd_names (e ▸ hk)
      obtain ⟨r2, g2⟩ := r1.junk (o := .tup [cv, cw]) hq
      exact ⟨v, q, [cv, cw], _, [u, u2], b, rfl, upd_same, .cons hcv (.cons hcw .nil), ty_of r2 rx hk h2, h1, p1 _ _ _ _ g2 r2 (.bl b)⟩
end
/-! ### dicts with keys that are texts or ints -/
def key? : D → Option Key
  | .int i => some (.inl i)
  | .str s => some (.inr s)
  | _ => none
def getK (l : List (Key × D)) (k : Key) : Option D := (l.find? fun kv => decide (kv.1 = k)).map (·.2)
def putD (l : List (Key × D)) (k : Key) (v : D) : List (Key × D) := if (l.any fun kv => decide (kv.1 = k)) = true then l.map (fun kv => if kv.1 = k then (kv.1, v) else kv) else l ++ [(k, v)]
def dct? (s : Sto) : D → Option (List (Key × D))
  | .ref n => match s[n]? with
    | some (.dct l) => some l
    | some (.dfz l) => some l
    | _ => none
  | .dct ks vs => some (ks.zip vs)
  | _ => none
section
variable {K : PySem.W.Frag} {Z H : Hp} {ι : List Addr} {st : Sto}
theorem RpK.find {ks : List (Key × V)} {kvs : List (Key × D)} (h : RpK K Z ι ks kvs) (k : Key) : (getK kvs k = none ∧ valV ks k = none) ∨ ∃ d v, getK kvs k = some d ∧ valV ks k = some v ∧ Rp K Z ι v d := by
  unfold RpK at h
  induction h with
  | nil => exact .inl ⟨rfl, rfl⟩
  | @cons p q ps qs hpq t ih =>
    obtain ⟨h1, h2⟩ := hpq
    by_cases e : p.1 = k
    · refine .inr ⟨q.2, p.2, ?_, valV_pos e, h2⟩
      unfold getK
      rw [List.find?_cons, ← h1]
      simp [e]
    · have e2 : ¬ q.1 = k := fun z => e (h1.trans z)
      rw [valV_neg e]
      have e3 : getK (q :: qs) k = getK qs k := by unfold getK; rw [List.find?_cons]; simp [e2]
      rw [e3]
      exact ih
theorem RpK.len {ks : List (Key × V)} {kvs : List (Key × D)} (h : RpK K Z ι ks kvs) : ks.length = kvs.length := Paired.length h
theorem RpK.any {ks : List (Key × V)} {kvs : List (Key × D)} (h : RpK K Z ι ks kvs) (k : Key) : (ks.any fun kv => decide (kv.1 = k)) = kvs.any fun kv => decide (kv.1 = k) := by
  unfold RpK at h
  induction h with
  | nil => rfl
  | @cons p q ps qs hpq t ih => rw [List.any_cons, List.any_cons, ih, hpq.1]
theorem paired_append {α β : Type} {R : α → β → Prop} : ∀ {as cs : List α} {bs ds : List β}, Paired R as bs → Paired R cs ds → Paired R (as ++ cs) (bs ++ ds)
  | _, _, _, _, .nil, q => q
  | _, _, _, _, .cons h t, q => .cons h (paired_append t q)
theorem RpK.put {ks : List (Key × V)} {kvs : List (Key × D)} {v : V} {d : D} (h : RpK K Z ι ks kvs) (k : Key) (r : Rp K Z ι v d) : RpK K Z ι (putK ks k v) (putD kvs k d) := by
  unfold putK putD
  rw [h.any]
  split
  · rename_i hany
    clear hany
    unfold RpK at h ⊢
    induction h with
    | nil => exact .nil
    | @cons p q ps qs hpq t ih =>
      rw [List.map_cons, List.map_cons]
      refine .cons ?_ ih
      by_cases e : p.1 = k
      · rw [if_pos e, if_pos (hpq.1 ▸ e)]; exact ⟨hpq.1, r⟩
      · rw [if_neg e, if_neg (hpq.1 ▸ e)]; exact hpq
  · exact paired_append h (.cons ⟨rfl, r⟩ .nil)
end
def mDGet (a b : ME) : ME := fun ρ s => bnd (a ρ s) fun x s => bnd (b ρ s) fun y s => match dct? s x, key? y with
  | some l, some k => ofO (getK l k) s
  | _, _ => none
def mDGet2 (a b c : ME) : ME := fun ρ s => bnd (a ρ s) fun x s => if (dct? s x).isSome then bnd (b ρ s) fun y s => bnd (c ρ s) fun z s => (match dct? s x, key? y with
  | some l, some k => some (.ok ((getK l k).getD z) s)
  | _, _ => none) else none
def mDNew : ME := fun _ s => some (.ok (.ref s.length) (s ++ [.dct []]))
def mDPut (v o i : ME) : MS := fun ρ s => bndS (v ρ s) ρ fun d s => bndS (o ρ s) ρ fun x s => bndS (i ρ s) ρ fun y s => match x, key? y with
  | .ref n, some k => (match s[n]? with
    | some (.dct l) => if l.length < 16777216 then some (.nx ρ (s.set n (.dct (putD l k d)))) else none
    | _ => none)
  | _, _ => none
section
variable {X : Cx} {W : WX} {o i e f value : Expr} {pos pos' apos : Pos} {mo mi me mf : ME}
/-- the pairs of a display -/
abbrev SdP (X : Cx) (W : WX) (pos : Pos) (keys : List (Option Expr)) (values : List Expr) (ms : List (Str × ME)) : Prop := PPs X pos keys values (ms.map fun p => (tC (.str p.1), rd X.K W p.2))
end
end MP


set_option Elab.async false
set_option linter.all false
set_option maxRecDepth 100000
set_option maxHeartbeats 4000000
/-! MPB: written tables, repr, instances -/
namespace MP
variable [Wd]
open PySem PySem.Spec PyProof.Rows L2

/-! ### a written table from texts to texts -/
def mTabIn (T : List (Str × Str)) (a : ME) : ME := fun ρ s => bnd (a ρ s) fun x s => match x with
  | .str z => some (.ok (.bl (T.lookup z).isSome) s)
  | _ => none
def mTabNotIn (T : List (Str × Str)) (a : ME) : ME := fun ρ s => bnd (a ρ s) fun x s => match x with
  | .str z => some (.ok (.bl (!(T.lookup z).isSome)) s)
  | _ => none
def mTab (T : List (Str × Str)) (a : ME) : ME := fun ρ s => bnd (a ρ s) fun x s => match x with
  | .str z => (match T.lookup z with
    | some v => some (.ok (.str v) s)
    | none => none)
  | _ => none
section
variable {X : Cx} {W : WX} {e o : Expr} {p pos : Pos} {me : ME} {d : Addr} {T : List (Str × Str)}
end
/-! ### repr -/
def pyF : Nat → Sto → D → Option PyData
  | 0, _, _ => none
  | n + 1, s, d => match d with
    | .non => some .none
    | .bl b => some (.bool b)
    | .int i => some (.int i)
    | .str z => some (.str z)
    | .lst l => (l.mapM (pyF n s)).map .list
    | .tup l => (l.mapM (pyF n s)).map .tuple
    | .ref m => (match s[m]? with
      | some (.lst l) => (l.mapM (pyF n s)).map .list
      | _ => none)
    | _ => none
section
variable {K : PySem.W.Frag} {st : Sto} {H Z : Hp} {ι : List Addr}
theorem mapM_cons' {α β : Type} {f : α → Option β} {a : α} {l : List α} {bs : List β} (h : (a :: l).mapM f = some bs) : ∃ b bs', f a = some b ∧ l.mapM f = some bs' ∧ bs = b :: bs' := by
  rw [List.mapM_cons] at h
  cases h1 : f a with
  | none => rw [h1] at h; cases h
  | some b => cases h2 : l.mapM f with
    | none => rw [h1, h2] at h; cases h
    | some bs' => rw [h1, h2] at h; cases h; exact ⟨b, bs', rfl, rfl, rfl⟩
theorem dpF_all {n : Nat} (ih : ∀ {v : V} {d : D} {p : PyData}, Rp K Z ι v d → pyF n st d = some p → Dp K H v p ∧ p.depth ≤ n) : ∀ {vs : List V} {ds : List D} {ps : List PyData}, RpL K Z ι vs ds → ds.mapM (pyF n st) = some ps → DpAll K H vs ps ∧ PyData.depthAll ps ≤ n
  | _, _, _, .nil, h => by cases h; exact ⟨.nil, Nat.zero_le _⟩
  | _, _, _, .cons h q, e => by
    obtain ⟨b, bs, h1, h2, rfl⟩ := mapM_cons' e
    obtain ⟨a1, a2⟩ := ih h h1
    obtain ⟨b1, b2⟩ := dpF_all ih q h2
    exact ⟨.cons a1 b1, by simp only [PyData.depthAll]; omega⟩
theorem dpF_of (r : Rel K st H Z ι) : ∀ (n : Nat) {v : V} {d : D} {p : PyData}, Rp K Z ι v d → pyF n st d = some p → Dp K H v p ∧ p.depth ≤ n
  | 0, _, _, _, _, e => by cases e
  | n + 1, _, _, _, h, e => by
    have all := fun {vs : List V} {ds : List D} {ps : List PyData} => dpF_all (K := K) (st := st) (H := H) (Z := Z) (ι := ι) (n := n) (fun h e => dpF_of r n h e) (vs := vs) (ds := ds) (ps := ps)
    cases h with
    | non => cases e; exact ⟨.non, by simp [PyData.depth]⟩
    | bl b => cases e; exact ⟨.bl b, by simp [PyData.depth]⟩
    | int i => cases e; exact ⟨.int i, by simp [PyData.depth]⟩
    | str z => cases e; exact ⟨.str z, by simp [PyData.depth]⟩
    | @lst a xs ds hz q =>
      unfold pyF at e
      dsimp only at e
      cases h2 : ds.mapM (pyF n st) with
      | none => rw [h2] at e; cases e
      | some ps => rw [h2] at e; cases e; obtain ⟨a1, a2⟩ := all q h2; exact ⟨.lst (SqL.of (r.zin _ _ hz)) a1, by simp only [PyData.depth]; omega⟩
    | @tup a xs ds hz q =>
      unfold pyF at e
      dsimp only at e
      cases h2 : ds.mapM (pyF n st) with
      | none => rw [h2] at e; cases e
      | some ps => rw [h2] at e; cases e; obtain ⟨a1, a2⟩ := all q h2; exact ⟨.tup (same_sqt r.zin hz) a1, by simp only [PyData.depth]; omega⟩
    | @ref m a hm =>
      unfold pyF at e
      dsimp only at e
      obtain ⟨ob, hs, hob⟩ := r.at_ hm
      rw [hs] at e
      cases ob with
      | lst l =>
        dsimp only at e
        obtain ⟨_, xs, hH, q⟩ := hob
        cases h2 : l.mapM (pyF n st) with
        | none => rw [h2] at e; cases e
        | some ps => rw [h2] at e; cases e; obtain ⟨a1, a2⟩ := all q h2; exact ⟨.lst (SqL.of hH) a1, by simp only [PyData.depth]; omega⟩
      | _ => cases e
    | _ => cases e
end
def gRepr (s : Sto) : List D → Option D
  | [d] => match pyF 60 s d with
    | some p => (match p with
      | .list _ => if p.showable && decide (p.shown.length ≤ 16777216) then some (.str p.shown) else none
      | .tuple _ => if p.showable && decide (p.shown.length ≤ 16777216) then some (.str p.shown) else none
      | _ => none)
    | none => none
  | _ => none
def rRepr (K : PySem.W.Frag) : List V → Hp → VK → Prop := fun xs H Q => ∃ a p, xs = [V.ref a] ∧ Dp K H (.ref a) p ∧ p.depth ≤ 60 ∧ p.showable = true ∧ p.hasDict = false ∧ p.shown.length ≤ sizeLine ∧ Q (.str p.shown) H
theorem cr_repr {X : Cx} (hG : X.A.guards = some []) (hu : X.A.units + 61 < cLine) : CallR X (.builtin "repr") (rRepr X.K) := by
  intro pins s σ H xs us Q I r h
  obtain ⟨a, p, rfl, hd, hdp, hs, hdi, hl, q⟩ := h
  rw [Vals.ref1 r]
  obtain ⟨as, hr⟩ := Dp.reads I p (.ref a) (.ref a) hd rfl
  refine repr_of_reads' hr hs (fun e => by rw [hdi] at e; cases e) hG (by omega) (fun b o e => e) (fun h' u tk hk => ?_) hl
  exact ⟨.str p.shown, H, I.kept hk, ⟨_, rfl⟩, q⟩
mutual
theorem nodict : ∀ {K : PySem.W.Frag} {H : Hp} {v : V} {p : PyData}, Dp K H v p → p.hasDict = false
  | _, _, _, _, .non => rfl
  | _, _, _, _, .bl _ => rfl
  | _, _, _, _, .int _ => rfl
  | _, _, _, _, .str _ => rfl
  | _, _, _, _, .lst _ q => by simp only [PyData.hasDict]; exact nodictAll q
  | _, _, _, _, .tup _ q => by simp only [PyData.hasDict]; exact nodictAll q
theorem nodictAll : ∀ {K : PySem.W.Frag} {H : Hp} {vs : List V} {ps : List PyData}, DpAll K H vs ps → PyData.hasDictAll ps = false
  | _, _, _, _, .nil => rfl
  | _, _, _, _, .cons h q => by simp only [PyData.hasDictAll]; rw [nodict h, nodictAll q]; rfl
end
theorem cs_repr {K : PySem.W.Frag} : CallS K (pu gRepr) (rRepr K) := fun st st' ds d vs H Z ι Q hf r hv k => by
  obtain ⟨hf, rfl⟩ := pu_inv hf
  cases hv with
  | nil => cases hf
  | @cons v _ x _ h q => cases q with
    | cons _ _ => cases hf
    | nil =>
      unfold gRepr at hf
      cases hp : pyF 60 st' x with
      | none => simp [hp] at hf
      | some p =>
        obtain ⟨h1, h2⟩ := dpF_of r 60 h hp
        have fin : (if (p.showable && decide (p.shown.length ≤ 16777216)) = true then some (D.str p.shown) else none) = some d → (∃ a, v = .ref a) → rRepr K [v] H Q := fun hf ⟨a, ha⟩ => by
          subst ha
          split at hf
          · rename_i hc
            rw [Bool.and_eq_true, decide_eq_true_eq] at hc
            cases hf
            exact ⟨a, p, rfl, h1, h2, hc.1, nodict h1, by rw [sizeLine_eq]; exact hc.2, k _ _ _ _ (Grow.refl _ _ _) r (.str _)⟩
          · cases hf
        cases h1 with
        | lst _ _ => simp only [hp] at hf; exact fin hf ⟨_, rfl⟩
        | tup _ _ => simp only [hp] at hf; exact fin hf ⟨_, rfl⟩
        | _ => simp [hp] at hf
end MP


set_option Elab.async false
set_option linter.all false
set_option maxRecDepth 100000
set_option maxHeartbeats 4000000
/-! MPC: instances: attributes, methods, making, own ==, !=, len -/
namespace MP
variable [Wd]
open PySem L2

def ins? (s : Sto) (C : Str) : D → Option (Nat × List (Str × D))
  | .ref n => match s[n]? with
    | some (.ins C' fs) => if C' = C then some (n, fs) else none
    | _ => none
  | _ => none
theorem ins_at {K : PySem.W.Frag} {st : Sto} {H Z : Hp} {ι : List Addr} {v : V} {x : D} {C : Str} {n : Nat} {fs : List (Str × D)} (r : Rel K st H Z ι) (h : Rp K Z ι v x) (hi : ins? st C x = some (n, fs)) :
    ∃ a dx gs, v = .ref a ∧ x = .ref n ∧ st[n]? = some (.ins C fs) ∧ ι[n]? = some a ∧ Z a = none ∧ H a = some (.ins (He.ga K C) dx gs) ∧ RpF K Z ι gs fs := by
  cases h with
  | @ref m a hm =>
    unfold ins? at hi
    dsimp only at hi
    obtain ⟨ob, hs, hob⟩ := r.at_ hm
    rw [hs] at hi
    cases ob with
    | ins C' fs' =>
      dsimp only at hi
      split at hi
      · rename_i e
        subst e
        cases hi
        obtain ⟨z, dx, gs, e, q⟩ := hob
        exact ⟨a, dx, gs, rfl, rfl, hs, hm, z, e, q⟩
      · cases hi
    | _ => cases hi
  | _ => cases hi
theorem RpF.find {K : PySem.W.Frag} {Z : Hp} {ι : List Addr} {gs : List (Str × V)} {fs : List (Str × D)} (h : RpF K Z ι gs fs) (k : Str) : (fs.lookup k = none ∧ gs.lookup k = none) ∨ ∃ d v, fs.lookup k = some d ∧ gs.lookup k = some v ∧ Rp K Z ι v d := by
  unfold RpF at h
  induction h with
  | nil => exact .inl ⟨rfl, rfl⟩
  | @cons p q ps qs hpq t ih =>
    obtain ⟨pk, pv⟩ := p
    obtain ⟨qk, qv⟩ := q
    obtain ⟨h1, h2⟩ := hpq
    dsimp only at h1 h2
    subst h1
    simp only [List.lookup_cons]
    cases k == pk with
    | true => exact .inr ⟨qv, pv, rfl, rfl, h2⟩
    | false => exact ih
def putFD (f : Str) (d : D) : List (Str × D) → List (Str × D)
  | [] => [(f, d)]
  | (g, e) :: r => if g = f then (g, d) :: r else (g, e) :: putFD f d r
theorem RpF.len {K : PySem.W.Frag} {Z : Hp} {ι : List Addr} {gs : List (Str × V)} {fs : List (Str × D)} (h : RpF K Z ι gs fs) : gs.length = fs.length := Paired.length h
theorem RpF.put {K : PySem.W.Frag} {Z : Hp} {ι : List Addr} {gs : List (Str × V)} {fs : List (Str × D)} {v : V} {d : D} (h : RpF K Z ι gs fs) (f : Str) (r : Rp K Z ι v d) : RpF K Z ι (putF f v gs) (putFD f d fs) := by
  unfold RpF at h ⊢
  induction h with
  | nil => exact .cons ⟨rfl, r⟩ .nil
  | @cons p q ps qs hpq t ih =>
    obtain ⟨pk, pv⟩ := p
    obtain ⟨qk, qv⟩ := q
    obtain ⟨h1, h2⟩ := hpq
    dsimp only at h1 h2
    subst h1
    unfold putF putFD
    by_cases e : pk = f
    · rw [if_pos e, if_pos e]; exact .cons ⟨rfl, r⟩ t
    · rw [if_neg e, if_neg e]; exact .cons ⟨rfl, h2⟩ ih
def mFld (C f : Str) (a : ME) : ME := fun ρ s => bnd (a ρ s) fun x s => match ins? s C x with
  | some nf => ofO (nf.2.lookup f) s
  | none => none
/-- o.f = v -/
def mFldSet (C f : Str) (o v : ME) : MS := fun ρ s => bndS (v ρ s) ρ fun d s => bndS (o ρ s) ρ fun x s => match ins? s C x with
  | some nf => if nf.2.length < 1000 then some (.nx ρ (s.set nf.1 (.ins C (putFD f d nf.2)))) else none
  | none => none
/-- o.m(..) -/
def mMeth (C m : Str) (fm : FM) (o : ME) (a : MA) : ME := fun ρ s => bnd (o ρ s) fun x s => match ins? s C x with
  | some nf => if (nf.2.lookup m).isNone = true then bnd (a ρ s) fun ds s => fm (x :: ds) s else none
  | none => none
/-- C(..) -/
def mMake (C : Str) (fm : FM) (a : MA) : ME := fun ρ s => bnd (a ρ s) fun ds s => match fm (.ref s.length :: ds) (s ++ [.ins C []]) with
  | some (.ok .non s') => some (.ok (.ref s.length) s')
  | some (.ex x s') => some (.ex x s')
  | _ => none
def mLenO (C : Str) (fm : FM) (o : ME) : ME := fun ρ s => bnd (o ρ s) fun x s => match ins? s C x with
  | some _ => bnd (fm [x] s) fun d s => (match d with
    | .int i => if 0 ≤ i ∧ i < 2 ^ 63 then some (.ok (.int i) s) else none
    | _ => none)
  | none => none
def mEqO (C : Str) (ok : Kd → Bool) (fm : FM) (a b : ME) : ME := fun ρ s => bnd (a ρ s) fun x s => bnd (b ρ s) fun y s => match ins? s C x, kdD s y with
  | some _, some k => if ok k = true then bnd (fm [x, y] s) fun d s => (match d with
    | .bl k => some (.ok (.bl k) s)
    | _ => none) else none
  | _, _ => none
def mNeO (C : Str) (ok : Kd → Bool) (fm : FM) (a b : ME) : ME := fun ρ s => bnd (a ρ s) fun x s => bnd (b ρ s) fun y s => match ins? s C x, kdD s y with
  | some _, some k => if ok k = true then bnd (fm [x, y] s) fun d s => (match d with
    | .bl k => some (.ok (.bl !k) s)
    | _ => none) else none
  | _, _ => none
theorem kontE {K : PySem.W.Frag} {W : WX} {σ : L2.St} {H : Hp} {Z : Hp} {ι : List Addr} {α β γ δ : Type} {rep : Hp → List Addr → β → α → Prop} {rep2 : Hp → List Addr → δ → γ → Prop} {m : MP.Env → Sto → RO α} {f : α → Sto → RO γ} {Q : δ → Hp → Prop} {ρ : MP.Env} {st : Sto} (e : EnvR K Z ι ρ σ) (r : Rel K st H Z ι) (p : Post K W σ Z ι H rep2 Q (bnd (m ρ st) f)) :
    rdG K W rep m σ H (fun b H1 => ∃ st1 Z1 ι1 a, m ρ st = some (.ok a st1) ∧ Grow Z ι H Z1 ι1 H1 ∧ EnvR K Z1 ι1 ρ σ ∧ Rel K st1 H1 Z1 ι1 ∧ rep Z1 ι1 b a ∧ Post K W σ Z1 ι1 H1 rep2 Q (f a st1)) := by
  refine ⟨ρ, st, Z, ι, e, r, ?_⟩
  cases hx : m ρ st with
  | none => rw [hx] at p; exact p.elim
  | some q => cases q with
    | ok a st1 =>
      rw [hx] at p
      exact fun b H' Z' ι' g r' q' => ⟨st1, Z', ι', a, rfl, g, e.mono g.toExt, r', q', (show Post K W σ Z ι H rep2 Q (f a st1) from p).grow g⟩
    | ex x st1 => rw [hx] at p; exact p
section
variable {X : Cx} {W : WX} {o e value : Expr} {es : List Expr} {p pos pos' apos : Pos} {mo me : ME} {ms : MA} {C f m x : Str} {k : Nat} {g : Addr} {fd : FuncData} {ps : List Str} {fm : FM} {ds : List Value} {dvs : List V} {dfs : List D}
theorem sd_fld (c : Cls X.K (He.ga X.K C)) (n : NoAttr X.K (He.ga X.K C) f) (ho : Sd X W o mo) (hb : attributeBase o f X.env (eval o X.env) = eval o X.env := by rfl) : Sd X W (.Attribute o f pos) (mFld C f mo) := by
  refine pe_imp (pe_fld ho hb) fun σ H Q ⟨ρ, st, Z, ι, en, r0, p⟩ => ?_
  refine rdG.mono (kont en r0 p) fun v H1 ⟨st1, Z1, ι1, x, g1, e1, r1, rx, p1⟩ => ?_
  cases hi : ins? st1 C x with
  | none => rw [hi] at p1; exact p1.elim
  | some nf =>
    obtain ⟨n', fs⟩ := nf
    rw [hi] at p1
    dsimp only at p1
    obtain ⟨a, dx, gs, rfl, rfl, hs, hn, hz, hH, hr⟩ := ins_at r1 rx hi
    rcases hr.find f with ⟨h1, _⟩ | ⟨d, v, h1, h2, hv⟩
    · rw [h1] at p1; exact p1.elim
    · rw [h1] at p1
      exact ⟨a, _, dx, gs, v, rfl, hH, c, n, h2, p1 _ _ _ _ (Grow.refl _ _ _) r1 hv⟩
theorem ss_fld (c : Cls X.K (He.ga X.K C)) (n : NoAttr X.K (He.ga X.K C) f) (ho : Sd X W o mo) (hv : Sd X W value me) (hs : swapsWith value (some (.Attribute o f pos')) pos.line X.env = pure false := by rfl) : SdS X W (.Assign [.Attribute o f pos'] value pos) (mFldSet C f mo me) := by
  refine ps_imp (ps_fld ho hv hs) fun E σ H ⟨ρ, st, Z, ι, en, r, p⟩ => ?_
  refine rdG.mono (skont en r p) fun v H1 ⟨st1, Z1, ι1, d, g1, e1, r1, rd1, p1⟩ => ?_
  refine rdG.mono (skont e1 r1 p1) fun w H2 ⟨st2, Z2, ι2, x, g2, e2, r2, rx, p2⟩ => ?_
  cases hi : ins? st2 C x with
  | none => rw [hi] at p2; exact p2.elim
  | some nf =>
    obtain ⟨n', fs⟩ := nf
    rw [hi] at p2
    dsimp only at p2
    split at p2
    · rename_i hl
      obtain ⟨a, dx, gs, rfl, rfl, hs, hn, hz, hH, hr⟩ := ins_at r2 rx hi
      obtain ⟨r4, g4⟩ := r2.change (o := .ins (He.ga X.K C) dx (putF f v gs)) (ob := .ins C (putFD f d fs)) hn hz fun H' e' => ⟨hz, _, _, e', hr.put f (rd1.mono g2.toExt)⟩
      exact ⟨a, _, dx, gs, rfl, hH, c, n, by rw [hr.len]; exact hl, PostS.nx_ (p2.grow g4) (e2.mono g4.toExt) r4⟩
    · exact p2.elim
/-- a def runs in a place with as much room -/
theorem run_atG {A' : Around} {pins : List (Addr × Obj)} {σ : L2.St} {H : Hp} {s : Shared} {Q : VK} {us : List Value} {vs : List V} {sp : Sp} (F : FnG X.prog X.w X.K X.mg X.base k g fd ps sp) (hr : Room k A') (hG : A'.guards = some []) (hfr : A'.frames = X.A.frames) (hb : Binds X.K fd ps ds) (hd : Vals dvs ds) (tk : L2N.Takes X W)
    (I : Inv X pins σ H s) (r : Vals vs us) (h : sp (vs ++ dvs) H Q (WE W σ)) : wpAny (model X.prog X.w) A' (call (.ref g) us) (EP X pins σ Q) X.xe s := by
  have r2 := r.append hd
  have b := hb s us I.kIn (by rw [← r2.length, F.len _ _ _ _ h])
  have e0 : Env0 X.prog X.w X.K X.mg X.base A' X.stack s H := ⟨by rw [hfr]; exact I.env0.frames, I.env0.mod, I.env0.bs, I.env0.bsz, I.env0.funs, I.env0.frf, I.env0.hok, I.env0.bare⟩
  refine wpAny_call (codeAny_mono (F.run A' X.stack s H ⟨us, []⟩ (us ++ ds) _ Q (WE W σ) hr hG e0 b r2 h) fun r s' hq => ?_)
  match r, hq with
  | .error e, hq => exact L2N.passAt tk σ pins H s e s' I hq
  | .ok (.ret u), hq => exact I.after hq
abbrev spG (X : Cx) (ps : List Str) (fm : FM) : Sp := spM X.K ps.length fm
theorem sp_of {σ : L2.St} {H Z : Hp} {ι : List Addr} {st : Sto} {Q : VK} {vs : List V} {dd : List D} (hl : dd.length = ps.length) (hv : RpL X.K Z ι vs dd) (r : Rel X.K st H Z ι) (p : Post X.K W σ Z ι H (Rp X.K) Q (fm dd st)) : spG X ps fm vs H Q (WE W σ) :=
  ⟨by rw [hv.length, hl], dd, st, Z, ι, hv, r, p.toE⟩
theorem sd_meth {pl : Sem Bool} (c : Cls X.K (He.ga X.K C)) (hm : Meth X.K (He.ga X.K C) m g) (G : FnG X.prog X.w X.K X.mg X.base k g fd ps (spM X.K ps.length fm)) (hr : Room k X.A) (hG : X.A.guards = some []) (hb : Binds X.K fd ps ds) (hd : Vals dvs ds) (hdd : ∀ Z ι, RpL X.K Z ι dvs dfs) (tk : L2N.Takes X W) (ho : Sd X W o mo) (ha : SdA X W (e :: es) ms)
    (hl : ∀ ρ s ds s', ms ρ s = some (.ok ds s') → ds.length + dfs.length + 1 = ps.length)
    (hst : starEach (e :: es) X.env = (false, eval e X.env) :: starEach es X.env := by rfl) (hpl : (backTo pos (starEach es X.env)).any (·.1) = false := by rfl)
    (ht : eval (.Call (.Attribute o m apos) (e :: es) [] pos) X.env = (do
      let ov ← eval o X.env
      standAt apos.atName
      let (f, first) ← holding [ov] (getMethod ov m pl)
      callWith pos f first (backTo pos (starEach (e :: es) X.env)) (backToKw pos (keywordEach [] X.env))) := by rfl) :
    Sd X W (.Call (.Attribute o m apos) (e :: es) [] pos) (mMeth C m (fun ds => fm (ds ++ dfs)) mo ms) := by
  refine ⟨fun pins s σ H Q I ⟨ρ, st, Z, ι, en, r0, p⟩ => ?_⟩
  refine PySem.W.methodCall_KW (pl := pl) (thn (ho.run pins s σ H _ I (kont en r0 p)) fun u s1 ⟨x, H1, I1, rx, st1, Z1, ι1, d, g1, e1, r1, rd1, p1⟩ => ?_) ht
  cases hi : ins? st1 C d with
  | none => rw [hi] at p1; exact p1.elim
  | some nf =>
    obtain ⟨n', fs⟩ := nf
    rw [hi] at p1
    dsimp only at p1
    obtain ⟨a, dx, gs, rfl, rfl, hs, hn, hz, hH, hr'⟩ := ins_at r1 rd1 hi
    obtain rfl : u = Value.ref a := rx
    rcases hr'.find m with ⟨h1, h2⟩ | ⟨d, v, h1, h2, hv⟩
    · rw [h1] at p1
      refine getmeth_ok I1 hH c hm h2 ?_
      have p2 : Post X.K W σ Z1 ι1 H1 (Rp X.K) Q (bnd (ms ρ st1) fun ds s => fm (.ref n' :: ds ++ dfs) s) := p1
      refine PySem.W.callWith_K (first := [.ref a]) (h₀ := X.base) I.ok.mod.kin hm.kp (thn (ha.run pos pins s1 σ H1 _ I1 (kontE e1 r1 p2)) fun us s2 ⟨vs, H2, I2, rv, st2, Z2, ι2, dd, he, g2, e2, r2, rdd, p3⟩ => ⟨I2.kIn, ?_⟩) hst hpl
      refine run_atG (us := .ref a :: us) (vs := .ref a :: vs) G hr hG rfl hb hd tk I2 (.cons rfl rv) (sp_of ?_ (.cons (.ref (g2.toExt.get hn)) (rdd.append (hdd _ _))) r2 p3)
      have := hl _ _ _ _ he
      simp only [List.length_cons, List.length_append]
      omega
    · rw [h1] at p1; exact p1.elim
theorem sd_meth0 {pl : Sem Bool} (c : Cls X.K (He.ga X.K C)) (hm : Meth X.K (He.ga X.K C) m g) (G : FnG X.prog X.w X.K X.mg X.base k g fd ps (spM X.K ps.length fm)) (hr : Room k X.A) (hG : X.A.guards = some []) (hb : Binds X.K fd ps ds) (hd : Vals dvs ds) (hdd : ∀ Z ι, RpL X.K Z ι dvs dfs) (tk : L2N.Takes X W) (ho : Sd X W o mo)
    (hl : dfs.length + 1 = ps.length)
    (ht : eval (.Call (.Attribute o m apos) [] [] pos) X.env = (do
      let ov ← eval o X.env
      standAt apos.atName
      let (f, first) ← holding [ov] (getMethod ov m pl)
      callWith pos f first (backTo pos (starEach [] X.env)) (backToKw pos (keywordEach [] X.env))) := by rfl) :
    Sd X W (.Call (.Attribute o m apos) [] [] pos) (mMeth C m (fun ds => fm (ds ++ dfs)) mo mNil) := by
  refine ⟨fun pins s σ H Q I ⟨ρ, st, Z, ι, en, r0, p⟩ => ?_⟩
  refine PySem.W.methodCall_KW (pl := pl) (thn (ho.run pins s σ H _ I (kont en r0 p)) fun u s1 ⟨x, H1, I1, rx, st1, Z1, ι1, d, g1, e1, r1, rd1, p1⟩ => ?_) ht
  cases hi : ins? st1 C d with
  | none => rw [hi] at p1; exact p1.elim
  | some nf =>
    obtain ⟨n', fs⟩ := nf
    rw [hi] at p1
    dsimp only at p1
    obtain ⟨a, dx, gs, rfl, rfl, hs, hn, hz, hH, hr'⟩ := ins_at r1 rd1 hi
    obtain rfl : u = Value.ref a := rx
    rcases hr'.find m with ⟨h1, h2⟩ | ⟨d, v, h1, h2, hv⟩
    · rw [h1] at p1
      refine getmeth_ok I1 hH c hm h2 (PySem.W.callWith_K0 (first := [.ref a]) I1.kIn hm.kp ?_)
      refine run_atG (us := [.ref a]) (vs := [.ref a]) G hr hG rfl hb hd tk I1 (.cons rfl .nil) (sp_of (dd := .ref n' :: dfs) (by simp only [List.length_cons]; omega) (.cons (.ref hn) (hdd _ _)) r1 p1)
    · rw [h1] at p1; exact p1.elim
theorem make_G {A : Around} {C : Addr} {us : List Value} {kw : List (Str × Value)} (h : A.guards = some []) : (A.under (.builtin "type.__call__" ⟨.ref C :: us, kw⟩)).guards = some [] := by
  first | exact h | (simp [Around.under, Code.isGuard, guardIds]; exact h)
theorem run_makeG {Cc : Addr} {pins : List (Addr × Obj)} {σ : L2.St} {H : Hp} {s : Shared} {Q : VK} {us : List Value} {vs : List V} {sp : Sp} (M : Mk X.K Cc g) (F : FnG X.prog X.w X.K X.mg X.base k g fd ps sp) (hr : Room (k + 1) X.A) (hG : X.A.guards = some []) (hb : Binds X.K fd ps ds) (hd : Vals dvs ds) (tk : L2N.Takes X W)
    (I : Inv X pins σ H s) (r : Vals vs us)
    (h : ∀ x dx, H x = none → H dx = none → dx ≠ x → sp (.ref x :: (vs ++ dvs)) (upd (upd H dx (.own x)) x (.ins Cc dx [])) (fun v H2 => v = .non ∧ Q (.ref x) H2) (WE W σ)) :
    wpAny (model X.prog X.w) X.A (call (.ref Cc) us) (EP X pins σ Q) X.xe s := by
  have hq := h (s.heap.objs.size + 1) s.heap.objs.size (I.hok.fresh (Nat.le_succ _)) (I.hok.fresh (Nat.le_refl _)) (Nat.ne_of_lt (Nat.lt_succ_self _))
  have I2 := Inv.made (C := Cc) I
  have r2 : Vals (V.ref (s.heap.objs.size + 1) :: (vs ++ dvs)) (Value.ref (s.heap.objs.size + 1) :: (us ++ ds)) := .cons rfl (r.append hd)
  have hl : (Value.ref (s.heap.objs.size + 1) :: us ++ ds).length = ps.length := (F.len _ _ _ _ hq ▸ r2.length).symm
  refine wpAny_call (make_map (f := g) I.kIn M.makes M.init (beq_iff_eq.mp M.fn) (codeAny_mono (F.run _ X.stack _ _ ⟨Value.ref (s.heap.objs.size + 1) :: us, []⟩ (Value.ref (s.heap.objs.size + 1) :: (us ++ ds)) _ _ (WE W σ) (hr.make Cc us []) (make_G hG)
    (I2.env0.make Cc us []) (hb _ (Value.ref (s.heap.objs.size + 1) :: us) I2.kIn hl) r2 hq) fun r s' hq' => ?_))
  match r, hq' with
  | .error e, hq' => exact L2N.passAt tk σ pins _ _ e s' I2 hq'
  | .ok (.ret u), hq' =>
    obtain ⟨v, H', I3, rv, ev, q3⟩ := I2.after hq'
    subst ev
    exact ⟨rv, ⟨V.ref (s.heap.objs.size + 1), H', I3, rfl, q3⟩⟩
theorem make_sp {σ : L2.St} {H1 Z1 : Hp} {ι1 : List Addr} {st1 : Sto} {Q : VK} {vs : List V} {dd : List D} (hl : dd.length + 1 = ps.length) (r1 : Rel X.K st1 H1 Z1 ι1) (rdd : RpL X.K Z1 ι1 vs dd)
    (p : Post X.K W σ Z1 ι1 H1 (Rp X.K) Q (match fm (.ref st1.length :: dd) (st1 ++ [.ins C []]) with
      | some (.ok .non s') => some (.ok (.ref st1.length) s')
      | some (.ex x s') => some (.ex x s')
      | _ => none)) :
    ∀ x dx, H1 x = none → H1 dx = none → dx ≠ x → spM X.K ps.length fm (.ref x :: vs) (upd (upd H1 dx (.own x)) x (.ins (He.ga X.K C) dx [])) (fun v H2 => v = .non ∧ Q (.ref x) H2) (WE W σ) := fun x dx hx hdx hne => by
  obtain ⟨r2, g2⟩ := r1.junk (o := .own x) hdx
  have hx2 : upd H1 dx (.own x) x = none := by rw [upd_ne (Ne.symm hne)]; exact hx
  obtain ⟨r3, g3⟩ := r2.box (o := .ins (He.ga X.K C) dx []) (ob := .ins C []) hx2 fun H' ι' e' z' g' => ⟨z', dx, [], e', .nil⟩
  have g4 := g2.trans g3
  have hn : (ι1 ++ [x])[st1.length]? = some x := by rw [← r1.len]; simp
  refine sp_of (dd := .ref st1.length :: dd) (by simp only [List.length_cons]; omega) (.cons (.ref hn) (rdd.mono g4.toExt)) r3 ?_
  have p' := p.grow g4
  cases hf : fm (.ref st1.length :: dd) (st1 ++ [.ins C []]) with
  | none => rw [hf] at p'; exact p'.elim
  | some q =>
    rw [hf] at p'
    cases q with
    | ex xx s' => exact p'
    | ok d s' =>
      cases d with
      | non => exact fun b H' Z' ι' g5 r5 hb => by cases hb; exact ⟨rfl, p' _ _ _ _ g5 r5 (.ref (g5.toExt.get hn))⟩
      | _ => exact p'.elim
theorem sd_make (M : Mk X.K (He.ga X.K C) g) (G : FnG X.prog X.w X.K X.mg X.base k g fd ps (spM X.K ps.length fm)) (hr : Room (k + 1) X.A) (hG : X.A.guards = some []) (hm : X.mg x = some (.ref (He.ga X.K C))) (hb : Binds X.K fd ps ds) (hd : Vals dvs ds) (hdd : ∀ Z ι, RpL X.K Z ι dvs dfs) (tk : L2N.Takes X W) (ha : SdA X W (e :: es) ms)
    (hl : ∀ ρ s ds s', ms ρ s = some (.ok ds s') → ds.length + dfs.length + 1 = ps.length) (hg : Gl X x := by rfl) (hdb : (x == ("__debug__" : Str)) = false := by decide)
    (he : starEach (e :: es) X.env = (false, eval e X.env) :: starEach es X.env := by rfl) (hpl : (backTo pos (starEach es X.env)).any (·.1) = false := by rfl) :
    Sd X W (.Call (.Name x p) (e :: es) [] pos) (mMake C (fun ds => fm (ds ++ dfs)) ms) := by
  refine ⟨fun pins s σ H Q I ⟨ρ, st, Z, ι, en, r0, p⟩ => ?_⟩
  refine PySem.wpAny_Call_Name_kw (ld_glob I hg hm ?_ hdb)
  refine PySem.W.callWith_K (h₀ := X.base) I.ok.mod.kin M.kp (thn (ha.run pos pins s σ H _ I (kontE en r0 p)) fun us s2 ⟨vs, H2, I2, rv, st2, Z2, ι2, dd, hms, g2, e2, r2, rdd, p3⟩ => ⟨I2.kIn, ?_⟩) he hpl
  refine run_makeG M G hr hG hb hd tk I2 rv (make_sp (dd := dd ++ dfs) ?_ r2 (rdd.append (hdd _ _)) p3)
  have := hl _ _ _ _ hms
  rw [List.length_append]
  omega
end
end MP


set_option Elab.async false
set_option linter.all false
set_option maxRecDepth 100000
set_option maxHeartbeats 4000000
/-! MPD: len, == and != of instances by their own methods -/
namespace MP
variable [Wd]
open PySem L2
theorem one_read {K : PySem.W.Frag} {W : WX} {m : ME} {F : D → Sto → RO D} {σ : L2.St} {H : Hp} {Q : VK} (h : rd K W (fun ρ s => bnd (m ρ s) F) σ H Q) :
    rd K W m σ H fun v H1 => ∃ st1 Z1 ι1 x, Rel K st1 H1 Z1 ι1 ∧ Rp K Z1 ι1 v x ∧ Post K W σ Z1 ι1 H1 (Rp K) Q (F x st1) := by
  obtain ⟨ρ, st, Z, ι, e, r, p⟩ := h
  exact rdG.mono (kont e r p) fun v H1 ⟨st1, Z1, ι1, x, g1, e1, r1, rx, p1⟩ => ⟨st1, Z1, ι1, x, r1, rx, p1⟩
theorem two_read {K : PySem.W.Frag} {W : WX} {ma mb : ME} {F : D → D → Sto → RO D} {σ : L2.St} {H : Hp} {Q : VK} (h : rd K W (fun ρ s => bnd (ma ρ s) fun x s => bnd (mb ρ s) fun y s => F x y s) σ H Q) :
    rd K W ma σ H fun v H1 => rd K W mb σ H1 fun u H2 => ∃ st2 Z2 ι2 x y, Rel K st2 H2 Z2 ι2 ∧ Rp K Z2 ι2 v x ∧ Rp K Z2 ι2 u y ∧ Post K W σ Z2 ι2 H2 (Rp K) Q (F x y st2) := by
  obtain ⟨ρ, st, Z, ι, e, r, p⟩ := h
  exact rdG.mono (kont e r p) fun v H1 ⟨st1, Z1, ι1, x, g1, e1, r1, rx, p1⟩ => rdG.mono (kont e1 r1 p1) fun u H2 ⟨st2, Z2, ι2, y, g2, e2, r2, ry, p2⟩ => ⟨st2, Z2, ι2, x, y, r2, rx.mono g2.toExt, ry, p2⟩
section
variable {X : Cx} {W : WX} {o e a b : Expr} {p pos : Pos} {mo ma mb : ME} {C : Str} {k : Nat} {g : Addr} {fd : FuncData} {ps : List Str} {fm : FM}
def lenF (C : Str) (fm : FM) : D → Sto → RO D := fun x s => match ins? s C x with
  | some _ => bnd (fm [x] s) fun d s => (match d with
    | .int i => if 0 ≤ i ∧ i < 2 ^ 63 then some (.ok (.int i) s) else none
    | _ => none)
  | none => none
theorem sd_lenO (hs : PySem.W.findIn X.K (.ref (He.ga X.K C)) "__len__" = some (some (.ref g))) (hf : PySem.W.isFn X.K (.ref g) = true) (G : FnG X.prog X.w X.K X.mg X.base k g fd ps (spM X.K ps.length fm)) (hr : Room (k + 1) X.A) (hG : X.A.guards = some []) (hb : Binds X.K fd ps []) (tk : L2N.Takes X W) (ho : Sd X W o mo)
    (hm : X.mg "len" = none) (hl : ps.length = 1) (hg : Gl X "len" := by rfl) (he : starEach [o] X.env = (false, eval o X.env) :: starEach [] X.env := by rfl) (hpl : (backTo pos (starEach [] X.env)).any (·.1) = false := by rfl) :
    Sd X W (.Call (.Name "len" p) [o] [] pos) (mLenO C fm mo) := by
  refine ⟨fun pins s σ H Q I h => ?_⟩
  refine PySem.wpAny_Call_Name_kw (ld_blt I hg hm (by rfl) ?_ (by decide) (by decide))
  refine PyProof.Rows.callWith_builtin1 (thn ((pa_cons ho pa_nil he).run pos pins s σ H (fun vs H1 => ∃ v, vs = [v] ∧ ∃ st1 Z1 ι1 d, Rel X.K st1 H1 Z1 ι1 ∧ Rp X.K Z1 ι1 v d ∧ Post X.K W σ Z1 ι1 H1 (Rp X.K) Q (lenF C fm d st1)) I (rdG.mono (one_read (F := lenF C fm) h) fun v H1 q => ⟨v, rfl, q⟩)) fun us s1 ⟨vs, H1, I1, rv, v, ev, st1, Z1, ι1, d, r1, rd1, p1⟩ => ?_) he hpl
  subst ev
  unfold lenF at p1
  cases hi : ins? st1 C d with
  | none => rw [hi] at p1; exact p1.elim
  | some nf =>
    obtain ⟨n', fs⟩ := nf
    rw [hi] at p1
    dsimp only at p1
    obtain ⟨a, dx, gs, rfl, rfl, hst, hn, hz, hH, hr'⟩ := ins_at r1 rd1 hi
    rw [Vals.ref1 rv]
    obtain ⟨mA, J, _⟩ := ins_get I1.hok hH
    obtain ⟨od, J, _⟩ := J.look
    obtain ⟨m, hF⟩ := I1.fr
    refine PySem.W.len_K hF I1.ok.mod.kin J hs hf ?_
    have hsp : spM X.K ps.length fm [.ref a] H1 (fun v H2 => ∃ i, v = .int i ∧ (0 ≤ i ∧ i < 2 ^ 63) ∧ Q (.int i) H2) (WE W σ) := by
      refine sp_of (dd := [.ref n']) (by rw [hl]; rfl) (.cons (.ref hn) .nil) r1 ?_
      cases hq : fm [.ref n'] st1 with
      | none => rw [hq] at p1; exact p1.elim
      | some q =>
        rw [hq] at p1
        cases q with
        | ex x s' => exact p1
        | ok d s' =>
          dsimp only [bnd_ok] at p1
          intro v H2 Z2 ι2 g2 r2 rv2
          cases rv2 with
          | int i =>
            dsimp only at p1
            split at p1
            · rename_i hc
              exact ⟨i, rfl, hc, p1 _ _ _ _ g2 r2 (.int i)⟩
            · exact p1.elim
          | _ => exact p1.elim
    refine wpAny_mono (run_atG (us := [.ref a]) (vs := [.ref a]) (dvs := []) (ds := []) G hr.in1 (by exact hG) rfl hb .nil tk I1 (.cons rfl .nil) hsp) (fun u s2 ⟨v, H2, I2, rv2, i, ev, hc, q⟩ => ?_) fun _ _ x => x
    subst ev
    obtain ⟨t, rfl⟩ := rv2
    exact ⟨hc, .int i, H2, I2.tok _, ⟨_, rfl⟩, q⟩
/-- what the right side's kind must not be: a class below -/
def EqOk (X : Cx) (C : Str) (ok : Kd → Bool) : Prop := ∀ k, ok k = true → (∀ t, k = .t t → t ∈ bNames) → PySem.W.notFirst X.K (He.ga X.K C) (kdV X.K k) = true ∧ ∀ C, k = .o C → OwnOk X.K C
theorem ty_looks {st : Sto} {H Z : Hp} {ι : List Addr} {v : V} {d : D} {k : Kd} {u : Value} {pins : List (Addr × Obj)} {σ : L2.St} {s : Shared} (I : Inv X pins σ H s) (r : Rel X.K st H Z ι) (h : Rp X.K Z ι v d) (hk : kdD st d = some k) (ho : ∀ C, k = .o C → OwnOk X.K C) (ru : RelV v u) : PySem.W.Looks (model X.prog X.w) s.heap (typeOf u) (kdV X.K k) := by
  obtain ⟨P, Zk, pk, _⟩ := kit_of I ru (ty_of r h hk ho)
  exact Zk.ty _ _ I.kIn pk
/-- the own method's answer, a truth -/
theorem own_bool {Q : VK} {A' : Around} {pins : List (Addr × Obj)} {σ : L2.St} {s2 : Shared} {H2 Z2 : Hp} {ι2 : List Addr} {st2 : Sto} {x y : D} {v w : V} {u u2 : Value} {c : Bool → Bool} (G : FnG X.prog X.w X.K X.mg X.base k g fd ps (spM X.K ps.length fm)) (hr : Room k A') (hG : A'.guards = some []) (hfr : A'.frames = X.A.frames) (hb : Binds X.K fd ps []) (tk : L2N.Takes X W) (hl : ps.length = 2)
    (I2 : Inv X pins σ H2 s2) (r2 : Rel X.K st2 H2 Z2 ι2) (rx : Rp X.K Z2 ι2 v x) (ry : Rp X.K Z2 ι2 w y) (rv : RelV v u) (rw' : RelV w u2)
    (p2 : Post X.K W σ Z2 ι2 H2 (Rp X.K) Q (bnd (fm [x, y] st2) fun d s => match d with
      | .bl k => some (.ok (.bl (c k)) s)
      | _ => none)) :
    wpAny (model X.prog X.w) A' (call (.ref g) [u, u2]) (fun z s' => ∃ b, z = .bool b ∧ EP X pins σ Q (.bool (c b)) s') X.xe s2 := by
  have hsp : spM X.K ps.length fm [v, w] H2 (fun z H3 => ∃ b, z = .bl b ∧ Q (.bl (c b)) H3) (WE W σ) := by
    refine sp_of (dd := [x, y]) (by rw [hl]; rfl) (.cons rx (.cons ry .nil)) r2 ?_
    cases hq : fm [x, y] st2 with
    | none => rw [hq] at p2; exact p2.elim
    | some q =>
      rw [hq] at p2
      cases q with
      | ex x s' => exact p2
      | ok d s' =>
        dsimp only [bnd_ok] at p2
        intro z H3 Z3 ι3 g3 r3 rz
        cases rz with
        | bl b => exact ⟨b, rfl, p2 _ _ _ _ g3 r3 (.bl _)⟩
        | _ => exact p2.elim
  refine wpAny_mono (run_atG (us := [u, u2]) (vs := [v, w]) (dvs := []) (ds := []) G hr hG hfr hb .nil tk I2 (.cons rv (.cons rw' .nil)) hsp) (fun z s3 ⟨v3, H3, I3, rv3, b, ev, q⟩ => ?_) fun _ _ x => x
  subst ev
  cases rv3
  exact ⟨b, rfl, .bl (c b), H3, I3, rfl, q⟩
theorem sd_eqO {ok : Kd → Bool} (hok : EqOk X C ok) (hs : PySem.W.findIn X.K (.ref (He.ga X.K C)) "__eq__" = some (some (.ref g))) (hf : PySem.W.isFn X.K (.ref g) = true) (G : FnG X.prog X.w X.K X.mg X.base k g fd ps (spM X.K ps.length fm)) (hr : Room k X.A) (hG : X.A.guards = some []) (hb : Binds X.K fd ps []) (tk : L2N.Takes X W) (hl : ps.length = 2)
    (ha : Sd X W a ma) (hb' : Sd X W b mb) (hm : behindInMarks .Eq b = false := by first | exact nomark _ | rfl) : Sd X W (.Compare a [.Eq] [b] pos) (mEqO C ok fm ma mb) := by
  refine ⟨fun pins s σ H Q I h => ?_⟩
  refine wpAny_Compare1 (binT ha hb' I (two_read h) fun v u s2 xv yv H2 I2 rv ru ⟨st2, Z2, ι2, x, y, r2, rx2, ry, p2⟩ => ?_) hm
  cases hi : ins? st2 C x with
  | none => rw [hi] at p2; exact p2.elim
  | some nf => cases hk : kdD st2 y with
    | none => rw [hi, hk] at p2; exact p2.elim
    | some kd =>
      rw [hi, hk] at p2
      dsimp only at p2
      split at p2
      · rename_i hokk
        obtain ⟨h1, h2⟩ := hok kd hokk fun t e => kd_names (e ▸ hk)
        obtain ⟨n', fs⟩ := nf
        obtain ⟨a', dx, gs, rfl, ex, hst, hn, hz, hH, hr'⟩ := ins_at r2 rx2 hi
        obtain rfl : v = Value.ref a' := rv
        obtain ⟨mA, J, _⟩ := ins_get I2.hok hH
        obtain ⟨od, J, _⟩ := J.look
        obtain ⟨m, hF⟩ := I2.fr
        show wpAny (model X.prog X.w) X.A (richCompare .Eq (.ref a') u) (EP X pins σ Q) X.xe s2
        refine PySem.W.cmp_K (op := .Eq) hr.units0 hF I2.ok.mod.kin J (ty_looks I2 r2 ry hk h2 ru) h1 hs hf ?_
        refine wpAny_mono (own_bool (c := id) G hr hG rfl hb tk hl I2 r2 rx2 ry rfl ru p2) (fun z s3 ⟨b, e, q⟩ => ?_) fun _ _ x => x
        subst e
        exact q
      · exact p2.elim
end
/-! ### != through object.__ne__ -/
theorem slot_ne : Slot "object" "__ne__" "object.__ne__" := PySem.F.cmp_object.ne
theorem ne_own {prog : Program} {w : World} {A : Around} {E : Value → Shared → Prop} {s : Shared} {K : PySem.W.Frag} {x C f : Addr} {ox : Obj} {od : Option Obj} {b tb : Value} {Q : Value → Shared → Prop} (hu : A.units + 1 < cLine) (XK : K.In s.heap) (I : PySem.W.InstAt s.heap x ox C od) (hb : PySem.W.Looks (model prog w) s.heap (typeOf b) tb) (hn : PySem.W.notFirst K C tb = true)
    (hs : PySem.W.findIn K (.ref C) "__ne__" = some (some (.builtin "object.__ne__"))) (hs2 : PySem.W.findIn K (.ref C) "__eq__" = some (some (.ref f))) (hf : PySem.W.isFn K (.ref f) = true) (hob : PySem.W.mroIn K C (.type "object") = some true)
    (h : wpAny (model prog w) A.in1 (call (.ref f) [.ref x, b]) (fun v s' => ∃ k, v = .bool k ∧ Q (.bool !k) s') E s) : wpAny (model prog w) A (richCompare .NotEq (.ref x) b) Q E s := by
  have cl : wpAny (model prog w) A (call (.builtin "object.__ne__") [.ref x, b]) (fun v s' => ∃ k, v = .bool k ∧ Q (.bool k) s') E s := by
    refine wpAny_call (codeAny_call_builtin slot_ne.plain PySem.F.cmpEntry_ne ?_)
    have ha := PySem.F.cmpArgs_ne (.ref x) b
    simp only [checkBuiltinCall, PySem.F.cmpKind_ne, PySem.F.cmpSplit_ne]
    refine wpAny_bind ?_
    unfold isInstance
    refine wpAny_bind (I.type.here ?_)
    refine (PySem.W.looks_mroIn XK hob).here ?_
    have hq : wpAny (model prog w) A.in1 (Builtin.«object.__ne__» ⟨[.ref x, b], []⟩) (fun fin s' => match fin with
          | .done f => (match (Except.ok f : Result) with
            | .ok (.ret v) => ∃ k, v = Value.bool k ∧ Q (Value.bool k) s'
            | .ok _ => False
            | .error e => E e s')
          | .again c' => c'.quiet = true ∧ codeAny (model prog w) A c' (fun r s' => match r with
            | .ok (.ret v) => ∃ k, v = Value.bool k ∧ Q (Value.bool k) s'
            | .ok _ => False
            | .error e => E e s') s') (fun e s' => E e s') s := by
      unfold Builtin.«object.__ne__»
      repeat (first | with_reducible refine wpAny_cRoomFor hu ?_ | (with_reducible refine PySem.W.ifBound_K XK I hs2 hf (wpAny_mono h (fun v s' hv => ?_) fun _ _ e => e)) | wp_step)
      obtain ⟨k, rfl, q⟩ := hv
      show wpAny _ _ (truthy (.bool k) >>= fun l => ret (Value.bool !l)) _ _ _
      repeat wp_step
      exact ⟨_, rfl, q⟩
    simp only [Bool.not_true, Bool.false_eq_true, if_false]
    cases hsig : Manifest.signature? "object.__ne__" with
    | none => exact wpAny_pure hq
    | some sig =>
      simp only [argsOk, hsig] at ha
      show wpAny _ _ (Bind.checkArgs "object.__ne__" sig ⟨[.ref x, b], []⟩) _ _ _
      rw [show Bind.checkArgs "object.__ne__" sig ⟨[.ref x, b], []⟩ = pure () from ha]
      exact wpAny_pure hq
  have one : wpAny (model prog w) A (tryCompare (.ref x) "__ne__" b) (fun r s' => ∃ v, r = some v ∧ Q v s') E s := by
    unfold tryCompare
    refine wpAny_bind ?_
    simp only [callSpecialIfBound?, bindSpecialIfBound?]
    refine wpAny_holding (wpAny_bind (wpAny_bind (wpAny_bind (I.type.here ((PySem.W.looks_findIn XK hs).here ?_)))))
    refine wpAny_bind (wpAny_askSetting (wpAny_ite ?_))
    simp only [slot_ne.bind]
    have fin : wpAny (model prog w) A (call (.builtin "object.__ne__") ([.ref x] ++ [b]) >>= fun v => pure (some v)) (fun r s₁ => wpAny (model prog w) A (match r with | some .notImplemented | none => pure none | some v => pure (some v)) (fun r s' => ∃ v, r = some v ∧ Q v s') E s₁) E s :=
      wpAny_bind (wpAny_mono cl (fun v s' ⟨k, e, q⟩ => wpAny_pure (by subst e; exact wpAny_pure ⟨_, rfl, q⟩)) fun _ _ h' => h')
    split
    · exact wpAny_bind (wpAny_pure (wpAny_pure fin))
    · exact wpAny_tryCatch (wpAny_bind (wpAny_pure (wpAny_pure fin)))
  unfold richCompare
  simp only [oneThing_ref]
  refine wpAny_holding (wpAny_bind (wpAny_cRoomFor (by omega) ?_))
  refine wpAny_bind (I.type.here (wpAny_bind (hb.here ?_)))
  split
  · rename_i q
    have e : PySem.W.subIn K tb (.ref C) = some false := by
      rcases Bool.or_eq_true_iff.mp hn with e | e
      · rw [beq_iff_eq.mp e] at q; simp at q
      · exact beq_iff_eq.mp e
    refine wpAny_bind ((PySem.W.looks_subIn XK e).here ?_)
    simp only [Bool.false_eq_true, if_false]
    refine wpAny_bind (wpAny_mono one (fun r s' z => ?_) fun _ _ e => e)
    obtain ⟨v, rfl, hq⟩ := z
    exact wpAny_pure hq
  · refine wpAny_bind (wpAny_pure ?_)
    simp only [Bool.false_eq_true, if_false]
    refine wpAny_bind (wpAny_mono one (fun r s' z => ?_) fun _ _ e => e)
    obtain ⟨v, rfl, hq⟩ := z
    exact wpAny_pure hq
theorem sd_neO {X : Cx} {W : WX} {a b : Expr} {pos : Pos} {ma mb : ME} {C : Str} {k : Nat} {g : Addr} {fd : FuncData} {ps : List Str} {fm : FM} {ok : Kd → Bool} (hok : EqOk X C ok) (hs1 : PySem.W.findIn X.K (.ref (He.ga X.K C)) "__ne__" = some (some (.builtin "object.__ne__"))) (hob : PySem.W.mroIn X.K (He.ga X.K C) (.type "object") = some true) (hs : PySem.W.findIn X.K (.ref (He.ga X.K C)) "__eq__" = some (some (.ref g))) (hf : PySem.W.isFn X.K (.ref g) = true) (G : FnG X.prog X.w X.K X.mg X.base k g fd ps (spM X.K ps.length fm)) (hr : Room (k + 1) X.A) (hG : X.A.guards = some []) (hb : Binds X.K fd ps []) (tk : L2N.Takes X W) (hl : ps.length = 2)
    (ha : Sd X W a ma) (hb' : Sd X W b mb) (hm : behindInMarks .NotEq b = false := by first | exact nomark _ | rfl) : Sd X W (.Compare a [.NotEq] [b] pos) (mNeO C ok fm ma mb) := by
  refine ⟨fun pins s σ H Q I h => ?_⟩
  refine wpAny_Compare1 (binT ha hb' I (two_read h) fun v u s2 xv yv H2 I2 rv ru ⟨st2, Z2, ι2, x, y, r2, rx2, ry, p2⟩ => ?_) hm
  cases hi : ins? st2 C x with
  | none => rw [hi] at p2; exact p2.elim
  | some nf => cases hk : kdD st2 y with
    | none => rw [hi, hk] at p2; exact p2.elim
    | some kd =>
      rw [hi, hk] at p2
      dsimp only at p2
      split at p2
      · rename_i hokk
        obtain ⟨h1, h2⟩ := hok kd hokk fun t e => kd_names (e ▸ hk)
        obtain ⟨n', fs⟩ := nf
        obtain ⟨a', dx, gs, rfl, ex, hst, hn, hz, hH, hr'⟩ := ins_at r2 rx2 hi
        obtain rfl : v = Value.ref a' := rv
        obtain ⟨mA, J, _⟩ := ins_get I2.hok hH
        obtain ⟨od, J, _⟩ := J.look
        show wpAny (model X.prog X.w) X.A (richCompare .NotEq (.ref a') u) (EP X pins σ Q) X.xe s2
        refine ne_own (by have := hr.un; omega) I2.kIn J (ty_looks I2 r2 ry hk h2 ru) h1 hs1 hs hf hob ?_
        exact own_bool (c := fun b => !b) G hr.in1 (by exact hG) rfl hb tk hl I2 r2 rx2 ry rfl ru p2
      · exact p2.elim
end MP


set_option Elab.async false
set_option linter.all false
set_option maxRecDepth 100000
set_option maxHeartbeats 4000000
/-! MPE: defs with their readings, calls of them, the law's end -/
namespace MP
variable [Wd]
open PySem L2

theorem takes0 {Y : Cx} : L2N.Takes Y W0 := fun u s' ⟨a, B, sI, pins, σ, H, cls, d, e, I, nb, up, sky, na, os, ag, w⟩ => w.elim
/-- any statement, where the reading says nothing -/
def mHalt : MS := fun _ _ => none
theorem ss_halt {X : Cx} {W : WX} {s : Stmt} : SdS X W s mHalt := ⟨fun pins s σ H D I ⟨ρ, st, Z, ι, e, r, p⟩ => p.elim⟩
/-- the def at f is what fm says; ps its parameters, dvs its defaults -/
def OkF (P : Program) (w : World) (K : PySem.W.Frag) (mg : Str → Option Value) (base : Heap) (k : Nat) (f : Addr) (ps : List Str) (dvs : List V) (fm : FM) : Prop :=
  ∃ fd, PySem.W.keepIn K (.ref f) = true ∧ FnG P w K mg base k f fd ps (spM K ps.length fm) ∧ Binds K fd ps [] ∧ ∃ ds, Vals dvs ds ∧ Binds K fd ps ds
section
variable {P : Program} {w : World} {K : PySem.W.Frag} {mg : Str → Option Value} {base : Heap} {x qual : Str} {params : Arguments} {body : List Stmt} {scope : Scope} {kws : List (Str × V)} {f : Addr} {fd : FuncData} {N ps : List Str} {k : Nat} {m : MS}
theorem okF_halt {dvs : List V} {fm : FM} (h : ∀ ds s, fm ds s = none) (F : ∃ fd, PySem.W.keepIn K (.ref f) = true ∧ Binds K fd ps [] ∧ ∃ ds, Vals dvs ds ∧ Binds K fd ps ds) : OkF P w K mg base k f ps dvs fm := by
  obtain ⟨fd, h1, h2, h3⟩ := F
  exact ⟨fd, h1, ⟨fun vs H Q E q => q.1, fun A outer s H args us vs Q E _ _ _ _ _ q => by
    obtain ⟨_, ds, st, Z, ι, _, _, p⟩ := q
    rw [h] at p
    exact p.elim⟩, h2, h3⟩
/-- a def without defaults -/
theorem okF {dvs : List V} (hd : dvs = []) (F : FunD K x qual params body scope dvs kws f fd) (S : FnScope N ps scope) (hle : ps.length ≤ N.length)
    (hbind : ∀ (kV doc pm : Value) (an : Option Addr) (cdv ct : Value) (us : List Value), us.length = ps.length → bindArgs (PySem.W.fnOf x qual params body scope .none kV doc pm an cdv ct) ⟨us, []⟩ = pure (ps.zip us))
    (hb : ∀ (cdv : Value) (A : Around) (outer : List PySem.Env) (s : Shared) (H : Hp) (E : XK), Ctx P w K mg base N scope k (cxOf (L2N.CX P w) P w K mg base N qual scope f cdv A outer s H E) (fun c d _ H' => E c d H') →
      SdB (cxOf (L2N.CX P w) P w K mg base N qual scope f cdv A outer s H E) (fun c d _ H' => E c d H') body m) :
    OkF P w K mg base (k + 1) f ps [] (fnM N.length m) := by
  subst hd
  have b := F.bindsN hbind
  exact ⟨fd, F.kp, fn_ok F S hle hb, b, [], .nil, b⟩
/-- a def with one default -/
theorem okF1 {dvs : List V} {v : V} (hd : dvs = [v]) (F : FunD K x qual params body scope dvs kws f fd) (S : FnScope N ps scope) (hle : ps.length ≤ N.length) (n : Nat) (hn : n + 1 = ps.length)
    (h0 : ∀ (T : Addr) (kV doc pm : Value) (an : Option Addr) (cdv ct : Value) (us its : List Value), us.length = n + 1 → its.length = 1 →
      ∃ k, bindArgs (PySem.W.fnOf x qual params body scope (.ref T) kV doc pm an cdv ct) ⟨us, []⟩ = seqItems? (.ref T) >>= k ∧ k (some its.toArray) = pure (ps.zip (us ++ its.drop 1)))
    (h1 : ∀ (T : Addr) (kV doc pm : Value) (an : Option Addr) (cdv ct : Value) (us its : List Value), us.length = n → its.length = 1 →
      ∃ k, bindArgs (PySem.W.fnOf x qual params body scope (.ref T) kV doc pm an cdv ct) ⟨us, []⟩ = seqItems? (.ref T) >>= k ∧ k (some its.toArray) = pure (ps.zip (us ++ its.drop 0)))
    (hb : ∀ (cdv : Value) (A : Around) (outer : List PySem.Env) (s : Shared) (H : Hp) (E : XK), Ctx P w K mg base N scope k (cxOf (L2N.CX P w) P w K mg base N qual scope f cdv A outer s H E) (fun c d _ H' => E c d H') →
      SdB (cxOf (L2N.CX P w) P w K mg base N qual scope f cdv A outer s H E) (fun c d _ H' => E c d H') body m) :
    OkF P w K mg base (k + 1) f ps [v] (fnM N.length m) := by
  subst hd
  obtain ⟨ds0, hv0, b0⟩ := F.binds1 (n + 1) 1 (List.cons_ne_nil _ _) (by simpa using hn) h0
  obtain ⟨ds1, hv1, b1⟩ := F.binds1 n 0 (List.cons_ne_nil _ _) (by simpa using hn) h1
  have e : ds0 = [] := by cases hv0; rfl
  subst e
  exact ⟨fd, F.kp, fn_ok F S hle hb, b0, ds1, hv1, b1⟩
end
section
variable {X : Cx} {W : WX} {e o a b : Expr} {es : List Expr} {p pos apos : Pos} {ms : MA} {mo ma mb : ME} {k j : Nat} {f : Addr} {ps : List Str} {fm : FM} {x C m : Str} {dvs : List V} {dfs : List D}
/-- f(e, ..), all parameters written -/
theorem sd_callO (O : OkF X.prog X.w X.K X.mg X.base j f ps dvs fm) (hr : Room k X.A) (hk : j ≤ k) (hG : X.A.guards = some []) (hm : X.mg x = some (.ref f)) (tk : L2N.Takes X W) (ha : SdA X W (e :: es) ms)
    (hl : ∀ ρ s ds s', ms ρ s = some (.ok ds s') → ds.length = ps.length) (hg : Gl X x := by rfl) (hdb : (x == ("__debug__" : Str)) = false := by decide) (he : starEach (e :: es) X.env = (false, eval e X.env) :: starEach es X.env := by rfl) (hpl : (backTo pos (starEach es X.env)).any (·.1) = false := by rfl) :
    Sd X W (.Call (.Name x p) (e :: es) [] pos) (mCall fm ms) := by
  obtain ⟨fd, kp, G, b0, _⟩ := O
  exact sd_call G (hr.mono hk) hG hm kp b0 tk ha hl hg hdb he hpl
/-- o.m(e, ..) -/
theorem sd_methO {pl : Sem Bool} (c : Cls X.K (He.ga X.K C)) (hm : Meth X.K (He.ga X.K C) m f) (O : OkF X.prog X.w X.K X.mg X.base j f ps dvs fm) (hr : Room k X.A) (hk : j ≤ k) (hG : X.A.guards = some []) (tk : L2N.Takes X W) (ho : Sd X W o mo) (ha : SdA X W (e :: es) ms)
    (hl : ∀ ρ s ds s', ms ρ s = some (.ok ds s') → ds.length + 1 = ps.length)
    (hst : starEach (e :: es) X.env = (false, eval e X.env) :: starEach es X.env := by rfl) (hpl : (backTo pos (starEach es X.env)).any (·.1) = false := by rfl)
    (ht : eval (.Call (.Attribute o m apos) (e :: es) [] pos) X.env = (do
      let ov ← eval o X.env
      standAt apos.atName
      let (f, first) ← holding [ov] (getMethod ov m pl)
      callWith pos f first (backTo pos (starEach (e :: es) X.env)) (backToKw pos (keywordEach [] X.env))) := by rfl) :
    Sd X W (.Call (.Attribute o m apos) (e :: es) [] pos) (mMeth C m fm mo ms) := by
  obtain ⟨fd, kp, G, b0, _⟩ := O
  have h := sd_meth (pl := pl) (apos := apos) (pos := pos) (dfs := []) (dvs := []) (ds := []) c hm G (hr.mono hk) hG b0 .nil (fun _ _ => .nil) tk ho ha (fun ρ s ds s' q => by simpa using hl ρ s ds s' q) hst hpl ht
  simpa using h
theorem sd_methO0 {pl : Sem Bool} (c : Cls X.K (He.ga X.K C)) (hm : Meth X.K (He.ga X.K C) m f) (O : OkF X.prog X.w X.K X.mg X.base j f ps dvs fm) (hr : Room k X.A) (hk : j ≤ k) (hG : X.A.guards = some []) (tk : L2N.Takes X W) (ho : Sd X W o mo)
    (hl : 1 = ps.length)
    (ht : eval (.Call (.Attribute o m apos) [] [] pos) X.env = (do
      let ov ← eval o X.env
      standAt apos.atName
      let (f, first) ← holding [ov] (getMethod ov m pl)
      callWith pos f first (backTo pos (starEach [] X.env)) (backToKw pos (keywordEach [] X.env))) := by rfl) :
    Sd X W (.Call (.Attribute o m apos) [] [] pos) (mMeth C m fm mo mNil) := by
  obtain ⟨fd, kp, G, b0, _⟩ := O
  have h := sd_meth0 (pl := pl) (apos := apos) (pos := pos) (dfs := []) (dvs := []) (ds := []) c hm G (hr.mono hk) hG b0 .nil (fun _ _ => .nil) tk ho (by simpa using hl) ht
  simpa using h
/-- C(e, ..), all parameters of __init__ written -/
theorem sd_makeO (M : Mk X.K (He.ga X.K C) f) (O : OkF X.prog X.w X.K X.mg X.base j f ps dvs fm) (hr : Room k X.A) (hk : j + 1 ≤ k) (hG : X.A.guards = some []) (hm : X.mg x = some (.ref (He.ga X.K C))) (tk : L2N.Takes X W) (ha : SdA X W (e :: es) ms)
    (hl : ∀ ρ s ds s', ms ρ s = some (.ok ds s') → ds.length + 1 = ps.length) (hg : Gl X x := by rfl) (hdb : (x == ("__debug__" : Str)) = false := by decide)
    (he : starEach (e :: es) X.env = (false, eval e X.env) :: starEach es X.env := by rfl) (hpl : (backTo pos (starEach es X.env)).any (·.1) = false := by rfl) :
    Sd X W (.Call (.Name x p) (e :: es) [] pos) (mMake C fm ms) := by
  obtain ⟨fd, kp, G, b0, _⟩ := O
  have h := sd_make (p := p) (pos := pos) (dfs := []) (dvs := []) (ds := []) M G (hr.mono hk) hG hm b0 .nil (fun _ _ => .nil) tk ha (fun ρ s ds s' q => by simpa using hl ρ s ds s' q) hg hdb he hpl
  simpa using h
theorem sd_lenOO (hs : PySem.W.findIn X.K (.ref (He.ga X.K C)) "__len__" = some (some (.ref f))) (hf : PySem.W.isFn X.K (.ref f) = true) (O : OkF X.prog X.w X.K X.mg X.base j f ps dvs fm) (hr : Room k X.A) (hk : j + 1 ≤ k) (hG : X.A.guards = some []) (tk : L2N.Takes X W) (ho : Sd X W o mo)
    (hm : X.mg "len" = none) (hl : ps.length = 1) (hg : Gl X "len" := by rfl) (he : starEach [o] X.env = (false, eval o X.env) :: starEach [] X.env := by rfl) (hpl : (backTo pos (starEach [] X.env)).any (·.1) = false := by rfl) :
    Sd X W (.Call (.Name "len" p) [o] [] pos) (mLenO C fm mo) := by
  obtain ⟨fd, kp, G, b0, _⟩ := O
  exact sd_lenO hs hf G (hr.mono hk) hG b0 tk ho hm hl hg he hpl
theorem sd_eqOO {ok : Kd → Bool} (hok : EqOk X C ok) (hs : PySem.W.findIn X.K (.ref (He.ga X.K C)) "__eq__" = some (some (.ref f))) (hf : PySem.W.isFn X.K (.ref f) = true) (O : OkF X.prog X.w X.K X.mg X.base j f ps dvs fm) (hr : Room k X.A) (hk : j ≤ k) (hG : X.A.guards = some []) (tk : L2N.Takes X W) (hl : ps.length = 2)
    (ha : Sd X W a ma) (hb' : Sd X W b mb) (hm : behindInMarks .Eq b = false := by first | exact nomark _ | rfl) : Sd X W (.Compare a [.Eq] [b] pos) (mEqO C ok fm ma mb) := by
  obtain ⟨fd, kp, G, b0, _⟩ := O
  exact sd_eqO hok hs hf G (hr.mono hk) hG b0 tk hl ha hb' hm
theorem sd_neOO {ok : Kd → Bool} (hok : EqOk X C ok) (hs1 : PySem.W.findIn X.K (.ref (He.ga X.K C)) "__ne__" = some (some (.builtin "object.__ne__"))) (hob : PySem.W.mroIn X.K (He.ga X.K C) (.type "object") = some true) (hs : PySem.W.findIn X.K (.ref (He.ga X.K C)) "__eq__" = some (some (.ref f))) (hf : PySem.W.isFn X.K (.ref f) = true) (O : OkF X.prog X.w X.K X.mg X.base j f ps dvs fm) (hr : Room k X.A) (hk : j + 1 ≤ k) (hG : X.A.guards = some []) (tk : L2N.Takes X W) (hl : ps.length = 2)
    (ha : Sd X W a ma) (hb' : Sd X W b mb) (hm : behindInMarks .NotEq b = false := by first | exact nomark _ | rfl) : Sd X W (.Compare a [.NotEq] [b] pos) (mNeO C ok fm ma mb) := by
  obtain ⟨fd, kp, G, b0, _⟩ := O
  exact sd_neO hok hs1 hob hs hf G (hr.mono hk) hG b0 tk hl ha hb' hm
end
end MP


set_option Elab.async false
set_option linter.all false
set_option maxRecDepth 100000
set_option maxHeartbeats 4000000
/-! MPZ: a law's end: its reading answers True at every script -/
namespace MP
open PySem PySem.Spec PyProof.Rows L2
section
variable [Wd]
theorem rel_empty {K : PySem.W.Frag} (H : Hp) (h : LamX.Tabs Wd.T H) : Rel K [] H H [] := ⟨Same.refl H, h, rfl, .nil, fun n o a h _ => by simp at h⟩
section
variable {P : Program} {w : World} {K : PySem.W.Frag} {mg mb : Str → Option Value} {k : Nat} {fa a : Addr} {fd : FuncData} {x : Str} {fm : FM} {s₁ : Shared} {vs : List Value} {ns : List Int}
/-- the law's def runs from a heap in which at most the script is tracked -/
theorem end_from {H : Hp} (KX : K.In s₁.heap) (hns : s₁.heap.Ns mainGlobals mg) (hb : s₁.heap.Ns builtinsNs mb) (hbb : ∀ x : Str, x ≠ "__name__" → mb x = bootBuiltins x) (hlim : s₁.heap.NoLimit) (hg : s₁.gens = #[])
    (ha : s₁.heap.get? a = some { cls := .type "list", data := .seq vs.toArray }) (hr : Room k callerA)
    (F : ∀ base : Heap, K.In base → base.Ns mainGlobals mg → FnG P w K mg base k fa fd [x] (spM K 1 fm)) (hbind : ∀ (s : Shared) (u : Value), BindsTo s fd ⟨[u], []⟩ [(x, u)]) {st : Sto} (hfm : fm [.scr ns] [] = some (.ok (.bl true) st))
    (hT : Wd.T = []) (hO : Only H) (hS : SqL K H a (ns.map V.int)) (hok : HOk P w H s₁.heap) (hA : ∀ b, H b ≠ none → b = a) (hK : H a ≠ none → K.lookup a = none) :
    codeAny (model P w) callerA (.call (.ref fa) ⟨[.ref a], []⟩) (fun r s' => r = .ok (.ret (.bool true)) ∧ OldK s₁.heap s'.heap ∧ s'.os = s₁.os ∧ AllBare s'.gens) s₁ := by
  have free : ∀ {b : Addr} {o : Obj}, s₁.heap.get? b = some o → (b = a → False) → H b = none := fun {b o} _ hne => by
    cases q : H b with
    | none => rfl
    | some u => exact (hne (hA b (by rw [q]; simp))).elim
  have nsK : ∀ {b : Addr} {m : Str → Option Value}, s₁.heap.Ns b m → (hidT s₁.heap H).Ns b m := fun {b m} ⟨o, es, ep, e, d, r⟩ => ⟨o, es, ep, hidT_get e (free e fun z => by
    subst z
    rw [ha] at e
    cases e
    exact absurd (show Data.seq vs.toArray _ = Data.dict es ep from d) (by intro h; cases h)), d, r⟩
  have hKb : K.In (hidT s₁.heap H) := fun b o e => by
    by_cases hz : H b = none
    · exact hidT_get (KX b o e) hz
    · have e1 := hA b hz
      subst e1
      rw [hK hz] at e
      cases e
  have hM : Mod K mg (hidT s₁.heap H) := ⟨hKb, nsK hns, ⟨mb, nsK hb, hbb⟩, let ⟨mc, h1, h2⟩ := hlim; ⟨mc, nsK h1, h2⟩⟩
  have e0 : Env0 P w K mg (hidT s₁.heap H) callerA [] s₁ H := ⟨rfl, hM, fun b o e => of_hidT e, Nat.le_of_eq (hidT_size _ _), trivial, fun b hb => absurd (show b ∈ ([] : List Addr) from hb) (by simp), hok, .of_eq hg⟩
  have hsp : spM K 1 fm [.ref a] H (fun v _ => v = .bl true) (fun _ _ _ => False) := ⟨rfl, [.scr ns], [], H, [], .cons (.scr hS) .nil, rel_empty H (by rw [hT]; exact fun p h => nomatch h), by
    rw [hfm]
    intro b H' Z' ι' _ _ rb
    cases rb
    rfl⟩
  refine codeAny_mono ((F _ hKb (nsK hns)).run callerA [] s₁ H ⟨[.ref a], []⟩ [.ref a] [.ref a] _ _ hr rfl e0 (hbind s₁ (.ref a)) (.cons rfl .nil) hsp) fun r s' h => ?_
  match r, h with
  | .error e, ⟨_, _, _, _, _, _, _, _, _, _, _, _, z⟩ => exact z.elim
  | .ok (.ret u), ⟨v, H', os, bare, un, hok', r', q⟩ =>
    subst q
    obtain rfl : u = Value.bool true := r'
    refine ⟨rfl, OldK.of_keep fun b o e => ?_, os, bare⟩
    rcases hO b with z | ⟨ob, xs, z⟩
    · exact un.keep b o e z (by intro q; exact absurd (show b ∈ ([] : List Addr) from q) (by simp)) (by simp)
    · obtain ⟨e1, _⟩ := hok b _ z
      obtain ⟨e2, _⟩ := hok' b _ (un.frzs b ob _ z)
      rw [e] at e1
      cases e1
      exact e2
theorem end_call (KX : K.In s₁.heap) (hns : s₁.heap.Ns mainGlobals mg) (hb : s₁.heap.Ns builtinsNs mb) (hbb : ∀ x : Str, x ≠ "__name__" → mb x = bootBuiltins x) (hlim : s₁.heap.NoLimit) (hg : s₁.gens = #[])
    (ha : s₁.heap.get? a = some { cls := .type "list", data := .seq vs.toArray }) (hi : IntsAre vs ns) (hl : ns.length ≤ sizeLine) (hr : Room k callerA)
    (F : ∀ base : Heap, K.In base → base.Ns mainGlobals mg → FnG P w K mg base k fa fd [x] (spM K 1 fm)) (hbind : ∀ (s : Shared) (u : Value), BindsTo s fd ⟨[u], []⟩ [(x, u)]) {st : Sto} (hfm : fm [.scr ns] [] = some (.ok (.bl true) st)) (hT : Wd.T = []) :
    codeAny (model P w) callerA (.call (.ref fa) ⟨[.ref a], []⟩) (fun r s' => r = .ok (.ret (.bool true)) ∧ OldK s₁.heap s'.heap ∧ s'.os = s₁.os ∧ AllBare s'.gens) s₁ := by
  have rv := vals_ints hi
  have lenV := hi.length
  cases hk : K.lookup a with
  | some o =>
    have e := KX a o hk
    rw [ha] at e
    cases e
    exact end_from (H := fun _ => none) KX hns hb hbb hlim hg ha hr F hbind hfm hT (fun _ => .inl rfl) (.inr ⟨_, vs.toArray, _, hk, rfl, rfl, rfl, by rw [List.size_toArray, lenV]; exact hl, by simpa using rv⟩) (fun b u z => nomatch (show (none : Option HO) = some u from z)) (fun b z => absurd rfl z) fun z => absurd rfl z
  | none =>
    have only : ∀ b, (if b = a then some (HO.frz { cls := .type "list", data := .seq vs.toArray } (.lst (ns.map V.int))) else none) ≠ none → b = a := fun b z => by
      by_cases hb : b = a
      · exact hb
      · exact absurd (if_neg hb) z
    refine end_from (H := fun b => if b = a then some (.frz { cls := .type "list", data := .seq vs.toArray } (.lst (ns.map V.int))) else none) KX hns hb hbb hlim hg ha hr F hbind hfm hT (fun b => ?_) (.inl (.inr ⟨{ cls := .type "list", data := .seq vs.toArray }, if_pos rfl⟩)) (fun b u z => ?_) only fun _ => hk
    · by_cases hb : b = a
      · exact .inr ⟨_, _, if_pos hb⟩
      · exact .inl (if_neg hb)
    · have hb : b = a := only b (fun q => nomatch q.symm.trans z)
      have z' := (if_pos hb).symm.trans z
      cases z'
      subst hb
      exact ⟨ha, by rw [List.length_map]; exact hl, vs, _, rv, ha⟩
end
end
/-- a law whose reading answers True at every script -/
theorem walk_G {l : PySem.W.OpenLaw} {n k : Nat} {q : Program} {loose : List Str} {XP : (Str → Option Value) → Heap → Prop} {YP : World → Heap → Prop} {d : DefRec} {x : Str} {fm : FM}
    (hn : l.most = some n) (hn2 : n ≤ sizeLine) (hdf : d.params.defaults = []) (hr : Room k callerA)
    (hfm : ∀ (_ : Wd) (ns : List Int), ns.length ≤ n → ∃ st, fm [.scr ns] [] = some (.ok (.bl true) st))
    (F : ∀ (w : World) (mg : Str → Option Value) (fa : Addr) (h : Heap), YP w h → h.Ns mainGlobals mg → mg d.name = some (.ref fa) →
      ∃ (K : PySem.W.Frag) (fd : FuncData), K.In h ∧ (∀ (s : Shared) (u : Value), BindsTo s fd ⟨[u], []⟩ [(x, u)]) ∧
        ∀ base : Heap, K.In base → base.Ns mainGlobals mg → FnG l.prog w K mg base k fa fd [x] (@spM ⟨w, []⟩ K 1 fm)) :
    PySem.W.WalkO q loose XP YP l.row.toRowW d [] (fun f vs => PySem.call f vs) := by
  refine Att.attach_call hn hdf fun w s₀ s₁ mg mb fa o pm cd doc a vs ns G Y ho hd hcd hmg hobj hints hlen hg => ?_
  obtain ⟨K, fd, KX, hb, hF⟩ := F w mg fa _ Y G.T.g hmg
  obtain ⟨st, hst⟩ := hfm ⟨w, []⟩ ns hlen
  letI : Wd := ⟨w, []⟩
  exact end_call KX G.T.g G.T.b G.T.builtins G.T.nolimit hg hobj hints (Nat.le_trans hlen hn2) hr hF hb hst rfl
end MP


set_option Elab.async false
set_option linter.all false
set_option maxRecDepth 100000
set_option maxHeartbeats 4000000
/-! MPF: the head's facts by numbers; tables, empty defaults, own classes as Bools -/
namespace MP
variable [Wd]
open PySem L2
theorem _root_.L2.Room.units8 {k : Nat} {A : Around} (r : Room k A) : A.units + 8 < cLine := by have := r.un; omega
theorem _root_.L2.Room.units9 {k : Nat} {A : Around} (r : Room k A) : A.units + 9 < cLine := by have := r.un; omega
theorem _root_.L2.Room.units61 {k : Nat} {A : Around} (r : Room k A) : A.units + 61 < cLine := by have := r.un; omega
theorem sd_globS {X : Cx} {W : WX} {x z : Str} {pos : Pos} (hm : ∃ t, X.mg x = some (.str z t)) (hg : Gl X x := by rfl) (hd : (x == ("__debug__" : Str)) = false := by decide) : Sd X W (.Name x pos) (mC (.str z)) := by
  obtain ⟨t, h⟩ := hm
  exact sd_glob (v := .str z) h ⟨t, rfl⟩ (fun _ _ => .str z) hg hd
/-! ### the facts -/
def SY (fa : List He.Fa) (fn : List He.DefD) (ts : List He.Tab) (ex : PySem.W.Frag → Bool) (w : World) (K : PySem.W.Frag) (mg : Str → Option Value) : Prop := ∃ h : Heap, K.In h ∧ h.Ns mainGlobals mg ∧ He.SaysX fa fn ts [] ex w h K ∧ w = Wd.w
section
variable {fa : List He.Fa} {fn : List He.DefD} {ts : List He.Tab} {ex : PySem.W.Frag → Bool} {w : World} {K : PySem.W.Frag} {mg : Str → Option Value}
theorem SY.fact (S : SY fa fn ts ex w K mg) (i : Nat) {f : He.Fa} (h : fa[i]? = some f) : f.ok K = true := by
  obtain ⟨_, _, _, c, _⟩ := S
  exact c.t.d.facts (List.mem_of_getElem? h)
theorem SY.wd (S : SY fa fn ts ex w K mg) : w = Wd.w := by
  obtain ⟨_, _, _, _, e⟩ := S
  exact e
theorem SY.glo (S : SY fa fn ts ex w K mg) (i : Nat) {x : Str} (h : fa[i]? = some (.glo x) := by rfl) : mg x = some (.ref (He.ga K x)) := by
  have c := S.fact i h
  obtain ⟨_, X, G, _⟩ := S
  exact He.glo_ok X G c
theorem SY.free (S : SY fa fn ts ex w K mg) (i : Nat) {x : Str} (h : fa[i]? = some (.free x) := by rfl) : mg x = none := by
  have c := S.fact i h
  obtain ⟨_, X, G, _⟩ := S
  exact He.free_ok X G c
theorem SY.str (S : SY fa fn ts ex w K mg) (i : Nat) {x z : Str} (h : fa[i]? = some (.str x z) := by rfl) : ∃ t, mg x = some (.str z t) := by
  have c := S.fact i h
  obtain ⟨_, X, G, _⟩ := S
  exact He.str_ok X G c
theorem SY.cls (S : SY fa fn ts ex w K mg) (i : Nat) {x : Str} (h : fa[i]? = some (.cls x) := by rfl) : Cls K (He.ga K x) := He.cls_ok (S.fact i h)
theorem SY.noat (S : SY fa fn ts ex w K mg) (i : Nat) {x f : Str} (h : fa[i]? = some (.noat x f) := by rfl) : NoAttr K (He.ga K x) f := He.noat_ok (S.fact i h)
theorem SY.meth (S : SY fa fn ts ex w K mg) (i : Nat) {x m : Str} (h : fa[i]? = some (.meth x m) := by rfl) : Meth K (He.ga K x) m (He.ma K (He.ga K x) m) := He.meth_ok (S.fact i h)
theorem SY.mkr (S : SY fa fn ts ex w K mg) (i : Nat) {x : Str} (h : fa[i]? = some (.mkr x) := by rfl) : Mk K (He.ga K x) (He.ma K (He.ga K x) "__init__") := He.mkr_ok (S.fact i h)
theorem SY.def_ (S : SY fa fn ts ex w K mg) (i : Nat) {d : He.DefD} (h : fn[i]? = some d := by rfl) : ∃ fd, FunD K d.name d.qual d.params d.body d.scope (d.dvs K) (d.kws K) (He.fAd K d.at_) fd := by
  obtain ⟨_, _, _, c, _⟩ := S
  exact c.t.d.defs (List.mem_of_getElem? h)
theorem SY.tab (S : SY fa fn ts ex w K mg) (i : Nat) {t : He.Tab} (h : ts[i]? = some t := by rfl) : ∃ es n, KDict K w (t.1 K) es n := by
  obtain ⟨_, _, _, c, _⟩ := S
  exact c.t.tab i h
theorem SY.more (S : SY fa fn ts ex w K mg) : ex K = true := by
  obtain ⟨_, _, _, c, _⟩ := S
  exact c.more
end
/-! ### a written table of texts -/
/-! ### an empty tuple of the text -/
def etupB (K : PySem.W.Frag) (a : Addr) : Bool := match K.lookup a with
  | some ⟨.type c, _, .seq its _, _⟩ => decide (c = "tuple") && its.isEmpty
  | _ => false
theorem etup_rp {K : PySem.W.Frag} {a : Addr} (h : etupB K a = true) (Z : Hp) (ι : List Addr) : RpL K Z ι [.ref a] [.tup []] := by
  unfold etupB at h
  split at h
  · rename_i c od its n sl hl
    rw [Bool.and_eq_true, decide_eq_true_eq] at h
    obtain ⟨rfl, h2⟩ := h
    have e : its = #[] := Array.isEmpty_iff.mp h2
    subst e
    exact .cons (.tup (.inr ⟨_, #[], n, hl, rfl, rfl, Nat.zero_le _, .nil⟩) .nil) .nil
  · cases h
/-! ### an own class: isinstance, ==, != -/
def ownB (K : PySem.W.Frag) (C : Str) : Bool := decide (PySem.W.findIn K (.ref (He.ga K C)) "__class__" = some (some (.builtin "object.__class__"))) && (decide (PySem.W.specialIn K (.builtin "object.__class__") "__get__" = some (some (.builtin "getset_descriptor.__get__"))) &&
  (decide (PySem.W.takesIn K (.builtin "object.__class__") = some true) && (decide (PySem.W.mroIn K (He.ga K C) (.type "object") = some true) && (bNames.all (fun t => decide (PySem.W.kitAny K (.type t) [.ref (He.ga K C)] = some false)) &&
  (bNames.all (fun t => PySem.W.notFirst K (He.ga K C) (.type t)) && decide (PySem.W.findIn K (.ref (He.ga K C)) "__ne__" = some (some (.builtin "object.__ne__"))))))))
structure OwnC (K : PySem.W.Frag) (C : Str) : Prop where
  ok : OwnOk K C
  kit : ∀ t ∈ bNames, PySem.W.kitAny K (.type t) [.ref (He.ga K C)] = some false
  nf : ∀ t ∈ bNames, PySem.W.notFirst K (He.ga K C) (.type t) = true
  ne : PySem.W.findIn K (.ref (He.ga K C)) "__ne__" = some (some (.builtin "object.__ne__"))
theorem ownC_of {K : PySem.W.Frag} {C : Str} (h : ownB K C = true) (c : Cls K (He.ga K C)) : OwnC K C := by
  unfold ownB at h
  simp only [Bool.and_eq_true, decide_eq_true_eq, List.all_eq_true] at h
  obtain ⟨h1, h2, h3, h4, h5, h6, h7⟩ := h
  exact ⟨⟨c, h1, h2, h3, h4⟩, h5, h6, h7⟩
def isC (C : Str) : Kd → Option Bool
  | .t _ => some false
  | .o D => if D = C then some true else none
theorem isiS_C {K : PySem.W.Frag} {C : Str} (h : OwnC K C) : IsiS K [.ref (He.ga K C)] (isC C) := fun k b e hk => by
  cases k with
  | t t => cases e; exact ⟨h.kit t (hk t rfl), fun _ z => nomatch z⟩
  | o D =>
    unfold isC at e
    dsimp only at e
    split at e
    · rename_i hD
      cases e
      subst hD
      refine ⟨?_, fun C' z => by cases z; exact h.ok⟩
      show PySem.W.kitAny K (.ref (He.ga K D)) [.ref (He.ga K D)] = some true
      unfold PySem.W.kitAny PySem.W.kitOne
      simp
    · cases e
def okE (C : Str) : Kd → Bool
  | .t _ => true
  | .o D => decide (D = C)
theorem eqOk_C {X : Cx} {C : Str} (h : OwnC X.K C) : EqOk X C (okE C) := fun k e hk => by
  cases k with
  | t t => exact ⟨h.nf t (hk t rfl), fun _ z => nomatch z⟩
  | o D =>
    have hD : D = C := of_decide_eq_true e
    subst hD
    refine ⟨?_, fun C' z => by cases z; exact h.ok⟩
    show PySem.W.notFirst X.K (He.ga X.K D) (.ref (He.ga X.K D)) = true
    unfold PySem.W.notFirst
    simp
end MP


set_option Elab.async false
set_option linter.all false
set_option maxRecDepth 100000
set_option maxHeartbeats 4000000
/-! MPG: more rules: tests of tables, halted defs with defaults -/
namespace MP
variable [Wd]
open PySem L2
/-! == of two texts -/
def fEqT (_ : Sto) (x y : D) : Option D := match x, y with
  | .str a, .str b => some (.bl (decide (a = b)))
  | _, _ => none
theorem os_eqT {K : PySem.W.Frag} : OpS K fEqT rEq := fun st x y d v u H Z ι Q hf r hx hy k => by
  cases hx with
  | str a => cases hy with
    | str b =>
      cases hf
      refine ⟨rfl, ?_⟩
      have e : decide (V.str a = V.str b) = decide (a = b) := by rw [Bool.eq_iff_iff]; simp
      rw [e]
      exact k _ H Z (Grow.refl _ _ _) r (.bl _)
    | _ => cases hf
  | _ => cases hf
section
variable {X : Cx} {W : WX} {e o : Expr} {p pos : Pos} {me : ME} {d : Addr} {T : List (Str × Str)}
end
section
variable {P : Program} {w : World} {K : PySem.W.Frag} {mg : Str → Option Value} {base : Heap} {x qual : Str} {params : Arguments} {body : List Stmt} {scope : Scope} {kws : List (Str × V)} {f : Addr} {fd : FuncData} {ps : List Str} {k : Nat}
end
end MP


set_option Elab.async false
set_option linter.all false
set_option maxRecDepth 100000
set_option maxHeartbeats 4000000
/-! MPH: list * int, list.reverse, in a dict, a list unpacked -/
namespace MP
variable [Wd]
open PySem L2
/-! ### * -/
def fMulL (s : Sto) (x y : D) : Option D := match x, y with
  | .int i, .int j => if cMul i j = true then some (.int (i * j)) else none
  | x, .int k => match lst? s x with
    | some l => if decide (-(2 ^ 63) ≤ k) && (decide (k < 2 ^ 63) && decide (l.length * k.toNat ≤ 16777216)) then some (.lst (List.replicate k.toNat l).flatten) else none
    | none => none
  | _, _ => none
def rMulL : R2 := fun x y H Q => (rI CMul fun i j => .int (i * j)) x y H Q ∨ rRep x y H Q
theorem op_mulL {X : Cx} : OpR X (binaryOp .Mult) rMulL := op_mul.or op_rep
theorem RpL.rep {K : PySem.W.Frag} {Z : Hp} {ι : List Addr} {xs : List V} {ds : List D} (q : RpL K Z ι xs ds) : ∀ n, RpL K Z ι (List.replicate n xs).flatten (List.replicate n ds).flatten
  | 0 => .nil
  | n + 1 => by rw [List.replicate_succ, List.replicate_succ, List.flatten_cons, List.flatten_cons]; exact q.append (q.rep n)
theorem os_mulL {K : PySem.W.Frag} : OpS K fMulL rMulL := fun st x y d v u H Z ι Q hf r hx hy k => by
  cases hy with
  | int j =>
    have lists : ∀ {x : D} {v : V}, Rp K Z ι v x → (match lst? st x with
        | some l => if decide (-(2 ^ 63) ≤ j) && (decide (j < 2 ^ 63) && decide (l.length * j.toNat ≤ 16777216)) then some (D.lst (List.replicate j.toNat l).flatten) else none
        | none => none) = some d → rRep v (.int j) H Q := fun {x v} hx hf => by
      cases h1 : lst? st x with
      | none => rw [h1] at hf; cases hf
      | some l =>
        rw [h1] at hf
        dsimp only at hf
        split at hf
        · rename_i hc
          cases hf
          simp only [Bool.and_eq_true, decide_eq_true_eq] at hc
          obtain ⟨p, xs, rfl, hp, qp⟩ := lst_sq r hx h1
          refine ⟨p, j, xs, rfl, rfl, hp, hc.1, hc.2.1, by rw [qp.length, ← sline]; exact hc.2.2, fun n hn => ?_⟩
          obtain ⟨r2, g2⟩ := r.zone (o := .lst (List.replicate j.toNat xs).flatten) hn
          exact k _ _ _ g2 r2 (.lst upd_same ((qp.rep _).mono g2.toExt))
        · cases hf
    cases hx with
    | int i =>
      unfold fMulL at hf
      dsimp only at hf
      split at hf
      · rename_i hc
        cases hf
        exact .inl ⟨i, j, rfl, rfl, by simpa [cMul, CMul] using hc, k _ H Z (Grow.refl _ _ _) r (.int _)⟩
      · cases hf
    | lst h q => exact .inr (lists (.lst h q) hf)
    | ref h => exact .inr (lists (.ref h) hf)
    | _ => cases hf
  | _ => cases hx <;> cases hf
/-! ### reverse -/
/-! ### in a dict -/
section
variable {X : Cx} {W : WX} {i o : Expr} {mi mo : ME} {pos : Pos}
end
/-! ### a tuple or a list unpacked -/
section
variable {X : Cx} {W : WX} {es : List Expr} {pos : Pos} {gs : MGs}
end
/-! ### list + list as a box -/
section
variable {X : Cx} {W : WX} {a b : Expr} {ma mb : ME} {pos : Pos}
end
end MP


set_option Elab.async false
set_option linter.all false
set_option maxRecDepth 100000
set_option maxHeartbeats 4000000
/-! MPI: own items (get, set, add to), properties -/
namespace MP
variable [Wd]
open PySem L2 PyProof.Rows
section
variable {prog : Program} {w : World} {A : Around} {E : Value → Shared → Prop} {s : Shared} {K : PySem.W.Frag} {x C g : Addr} {ox : Obj} {od : Option Obj}
theorem seqkey_own {M : Model} {h : Heap} {k : Value} {name : Str} (X : K.In h) (I : PySem.W.InstAt h x ox C od) (nd : PySem.W.mroIn K C (.type "collections.deque") = some false) : PySem.W.Looks M h (sequenceKey (.ref x) k name) k := by
  have dq : PySem.W.Looks M h (seqItemTypes.anyM fun n => isSubtype (.ref C) (.type n)) false := by
    show PySem.W.Looks M h (isSubtype (.ref C) (.type "collections.deque") >>= fun b => _) false
    exact (PySem.W.looks_mroIn X nd).andThen .now
  intro A Q E s kp q
  unfold sequenceKey
  refine wpAny_bind (I.type A _ E s kp ?_)
  dsimp only
  refine wpAny_bind (dq A _ E s kp ?_)
  exact wpAny_pure q
theorem setItem_own {k v : Value} {Q : Unit → Shared → Prop} (X : K.In s.heap) (I : PySem.W.InstAt s.heap x ox C od) (nd : PySem.W.mroIn K C (.type "collections.deque") = some false) (hs : PySem.W.findIn K (.ref C) "__setitem__" = some (some (.ref g))) (hf : PySem.W.isFn K (.ref g) = true)
    (h : wpAny (model prog w) A (call (.ref g) [.ref x, k, v]) (fun _ s' => Q () s') E s) : wpAny (model prog w) A (setItem (.ref x) k v) Q E s := by
  unfold setItem
  try with_reducible refine wpAny_holding ?_
  refine wpAny_bind ((seqkey_own (M := model prog w) (k := k) X I nd).here ?_)
  refine wpAny_bind (PySem.W.special_fn (name := PySem.Str.ofString "__setitem__") X I hs (beq_iff_eq.mp hf) (wpAny_mono h (fun r s' hr => ?_) fun _ _ y => y))
  exact wpAny_pure hr
end
/-- x[i] by the class's own method -/
def mItO (C : Str) (fm : FM) (a b : ME) : ME := fun ρ s => bnd (a ρ s) fun x s => bnd (b ρ s) fun y s => match ins? s C x with
  | some _ => fm [x, y] s
  | none => none
/-- x[i] = v -/
def mItSet (C : Str) (fm : FM) (v o i : ME) : MS := fun ρ s => bndS (v ρ s) ρ fun d s => bndS (o ρ s) ρ fun x s => bndS (i ρ s) ρ fun y s => match ins? s C x with
  | some _ => bndS (fm [x, y, d] s) ρ fun _ s => some (.nx ρ s)
  | none => none
/-- x[i] += v, ints -/
def mItAug (C : Str) (fg fs : FM) (o i v : ME) : MS := fun ρ s => bndS (o ρ s) ρ fun x s => bndS (i ρ s) ρ fun y s => match ins? s C x with
  | some _ => bndS (fg [x, y] s) ρ fun old s => bndS (v ρ s) ρ fun d s => (match old, d, ins? s C x with
    | .int a, .int b, some _ => bndS (fs [x, y, .int (a + b)] s) ρ fun _ s => some (.nx ρ s)
    | _, _, _ => none)
  | none => none
/-- x.f, a property -/
def mProp (C : Str) (fm : FM) (a : ME) : ME := fun ρ s => bnd (a ρ s) fun x s => match ins? s C x with
  | some _ => noX (fm [x] s)
  | none => none
structure ItmC (K : PySem.W.Frag) (C : Str) (f : Addr) (m : Str) : Prop where
  nd : PySem.W.mroIn K (He.ga K C) (.type "collections.deque") = some false
  at_ : PySem.W.findIn K (.ref (He.ga K C)) m = some (some (.ref f))
  fn : PySem.W.isFn K (.ref f) = true
  fi : PySem.W.fnIn K f = true
section
variable {X : Cx} {W : WX} {e o i a b value : Expr} {p pos pos' tpos : Pos} {mo ma mb mi me : ME} {C m fl : Str} {k j j2 : Nat} {f f2 : Addr} {fd : FuncData} {ps ps2 : List Str} {fm fm2 : FM} {dvs dvs2 : List V}
theorem sd_itO (h : ItmC X.K C f "__getitem__") (O : OkF X.prog X.w X.K X.mg X.base j f ps dvs fm) (hr : Room k X.A) (hk : j + 1 ≤ k) (hG : X.A.guards = some []) (tk : L2N.Takes X W) (hl : ps.length = 2)
    (ha : Sd X W a ma) (hb' : Sd X W b mb) (hsl : ∀ x i, subscripted b true (.ref x) i = runValue (.builtin "lifetime.subscript" ⟨[.ref x, i], []⟩) := by intro _ _; rfl) : Sd X W (.Subscript a b pos) (mItO C fm ma mb) := by
  obtain ⟨fd, kp, G, hb, _⟩ := O
  refine ⟨fun pins s σ H Q I hh => ?_⟩
  refine Subscript_ (binT ha hb' I (two_read hh) fun v u s2 xv yv H2 I2 rv ru ⟨st2, Z2, ι2, x, y, r2, rx2, ry, p2⟩ => ?_)
  cases hi : ins? st2 C x with
  | none => rw [hi] at p2; exact p2.elim
  | some nf =>
    rw [hi] at p2
    dsimp only at p2
    obtain ⟨n', fs⟩ := nf
    obtain ⟨a', dx, gs, rfl, ex, hst, hn, hz, hH, hr'⟩ := ins_at r2 rx2 hi
    obtain rfl : v = Value.ref a' := rv
    obtain ⟨mA, J, _⟩ := ins_get I2.hok hH
    obtain ⟨od, J, _⟩ := J.look
    obtain ⟨mm, hF⟩ := I2.fr
    refine PySem.W.sub_K hF I2.ok.mod.kin J h.at_ h.fi h.fn ?_ (hsl _ _)
    exact run_atG (us := [.ref a', u]) (vs := [.ref a', yv]) (dvs := []) (ds := []) G (hr.mono hk).in1 (by exact hG) rfl hb .nil tk I2 (.cons rfl (.cons ru .nil)) (sp_of (dd := [x, y]) (by rw [hl]; rfl) (.cons rx2 (.cons ry .nil)) r2 p2)
theorem ss_itSet (h : ItmC X.K C f "__setitem__") (O : OkF X.prog X.w X.K X.mg X.base j f ps dvs fm) (hr : Room k X.A) (hk : j ≤ k) (hG : X.A.guards = some []) (tk : L2N.Takes X W) (hl : ps.length = 3)
    (ho : Sd X W o mo) (hi' : Sd X W i mi) (hv : Sd X W value me) (hs : swapsWith value (some (.Subscript o i pos')) pos.line X.env = pure false := by rfl) : SdS X W (.Assign [.Subscript o i pos'] value pos) (mItSet C fm me mo mi) := by
  obtain ⟨fd, kp, G, hb, _⟩ := O
  refine ⟨fun pins s σ H D I ⟨ρ, st, Z, ι, en, r, p⟩ => ?_⟩
  refine wpAny_Assign_Subscript (thn (hv.run pins s σ H _ I (skont en r p)) fun u s1 ⟨v, H1, I1, rv, st1, Z1, ι1, d, g1, e1, r1, rd1, p1⟩ => thn (ho.run pins s1 σ H1 _ I1 (skont e1 r1 p1)) fun ov s2 ⟨xv, H2, I2, rxv, st2, Z2, ι2, x, g2, e2, r2, rx, p2⟩ => thn (hi'.run pins s2 σ H2 _ I2 (skont e2 r2 p2)) fun iv s3 ⟨yv, H3, I3, ryv, st3, Z3, ι3, y, g3, e3, r3, ry, p3⟩ => ?_) hs
  have rx3 := rx.mono g3.toExt
  have rd3 := (rd1.mono g2.toExt).mono g3.toExt
  cases hi : ins? st3 C x with
  | none => rw [hi] at p3; exact p3.elim
  | some nf =>
    rw [hi] at p3
    dsimp only at p3
    obtain ⟨n', fs⟩ := nf
    obtain ⟨a', dx, gs, rfl, ex, hst, hn, hz, hH, hr'⟩ := ins_at r3 rx3 hi
    obtain rfl : ov = Value.ref a' := rxv
    obtain ⟨mA, J, _⟩ := ins_get I3.hok hH
    obtain ⟨od, J, _⟩ := J.look
    refine setItem_own I3.kIn J h.nd h.at_ h.fn ?_
    have hsp : spM X.K ps.length fm [.ref a', yv, v] H3 (fun _ H4 => ∃ σ', σ' = σ ∧ D.nx σ' H4) (WE W σ) := by
      refine sp_of (dd := [x, y, d]) (by rw [hl]; rfl) (.cons rx3 (.cons ry (.cons rd3 .nil))) r3 ?_
      cases hq : fm [x, y, d] st3 with
      | none => rw [hq] at p3; exact p3.elim
      | some q =>
        rw [hq] at p3
        cases q with
        | ex z s' => exact fun c dd H4 Z4 ι4 g4 r4 q4 => p3 c dd σ H4 Z4 ι4 g4 r4 (e3.mono g4.toExt) q4
        | ok z s' => exact fun zv H4 Z4 ι4 g4 r4 q4 => ⟨σ, rfl, p3 σ H4 Z4 ι4 g4 r4 (e3.mono g4.toExt)⟩
    refine wpAny_mono (run_atG (us := [.ref a', iv, u]) (vs := [.ref a', yv, v]) (dvs := []) (ds := []) G (hr.mono hk) hG rfl hb .nil tk I3 (.cons rfl (.cons ryv (.cons rv .nil))) hsp) (fun z s4 ⟨v4, H4, I4, rv4, σ', eσ, q⟩ => ?_) fun _ _ x => x
    subst eσ
    exact ⟨_, H4, I4, q⟩
end
end MP


set_option Elab.async false
set_option linter.all false
set_option maxRecDepth 100000
set_option maxHeartbeats 4000000
/-! MPJ: dicts: update, dict(d), sorted(d), targets; tuple * int -/
namespace MP
variable [Wd]
open PySem L2 PyProof.Rows
/-! ### d.update(e) -/
/-! ### dict(d) -/
/-! ### sorted(d) -/
/-! ### d[k] = e as a target -/
def gmDSub (o i : ME) : MG := fun d ρ s => bnd (noX (o ρ s)) fun x s => bnd (noX (i ρ s)) fun y s => match x, key? y with
  | .ref n, some k => (match s[n]? with
    | some (.dct l) => if l.length < 16777216 then some (.ok ρ (s.set n (.dct (putD l k d)))) else none
    | _ => none)
  | _, _ => none
section
variable {X : Cx} {W : WX} {o i : Expr} {pos : Pos} {mo mi : ME}
end
end MP


set_option Elab.async false
set_option linter.all false
set_option maxRecDepth 100000
set_option maxHeartbeats 4000000
/-! MPK: tuple * int -/
namespace MP
variable [Wd]
open PySem PySem.Spec PyProof.Rows L2
end MP


set_option Elab.async false
set_option linter.all false
set_option maxRecDepth 100000
set_option maxHeartbeats 4000000
/-! MPL: dicts that are walked (locked), their keys and pairs; dict comprehensions -/
namespace MP
variable [Wd]
open PySem L2 PyProof.Rows
def dropZ (Z : Hp) (a : Addr) : Hp := fun b => if b = a then none else Z b
theorem dropZ_ne {Z : Hp} {a b : Addr} (h : b ≠ a) : dropZ Z a b = Z b := if_neg h
theorem dropZ_same {Z : Hp} {a : Addr} : dropZ Z a a = none := if_pos rfl
section
variable {K : PySem.W.Frag} {Z : Hp} {ι : List Addr} {a : Addr} {o : Obj} {ks : List (Key × V)}
theorem drop_at {b : Addr} {u : HO} (hz : Z a = some (.frz o (.dK ks))) (h : Z b = some u) (hn : ∀ o' ks', u ≠ .frz o' (.dK ks')) : dropZ Z a b = some u := by
  have : b ≠ a := fun e => by
    subst e
    rw [hz] at h
    cases h
    exact hn _ _ rfl
  rw [dropZ_ne this]
  exact h
mutual
theorem Rp.drop (hz : Z a = some (.frz o (.dK ks))) : ∀ {v : V} {d : D}, Rp K Z ι v d → Rp K (dropZ Z a) ι v d
  | _, _, .non => .non
  | _, _, .bl b => .bl b
  | _, _, .int i => .int i
  | _, _, .str s => .str s
  | _, _, .lst h r => .lst (drop_at hz h fun _ _ e => nomatch e) (RpL.dropD hz r)
  | _, _, .tup h r => .tup (by
      rcases h with (h | ⟨o', h⟩) | h
      · exact .inl (.inl (drop_at hz h fun _ _ e => nomatch e))
      · exact .inl (.inr ⟨o', drop_at hz h fun _ _ e => nomatch e⟩)
      · exact .inr h) (RpL.dropD hz r)
  | _, _, .dct hl h r => .dct hl (drop_at hz h fun _ _ e => nomatch e) (RpL.dropD hz r)
  | _, _, .ref h => .ref h
  | _, _, .scr h => .scr (by
      rcases h with (h | ⟨o', h⟩) | h
      · exact .inl (.inl (drop_at hz h fun _ _ e => nomatch e))
      · exact .inl (.inr ⟨o', drop_at hz h fun _ _ e => nomatch e⟩)
      · exact .inr h)
theorem RpL.dropD (hz : Z a = some (.frz o (.dK ks))) : ∀ {vs : List V} {ds : List D}, RpL K Z ι vs ds → RpL K (dropZ Z a) ι vs ds
  | _, _, .nil => .nil
  | _, _, .cons h r => .cons (Rp.drop hz h) (RpL.dropD hz r)
end
theorem RpK.drop (hz : Z a = some (.frz o (.dK ks))) {l : List (Key × V)} {m : List (Key × D)} (h : RpK K Z ι l m) : RpK K (dropZ Z a) ι l m := Paired.mapP h fun _ _ q => ⟨q.1, q.2.drop hz⟩
theorem RpN.drop (hz : Z a = some (.frz o (.dK ks))) {l : List NV} {m : List (D × D)} (h : RpN K Z ι l m) : RpN K (dropZ Z a) ι l m := Paired.mapP h fun _ _ q => ⟨q.1, q.2.1, q.2.2.1.drop hz, q.2.2.2.drop hz⟩
theorem RpF.drop (hz : Z a = some (.frz o (.dK ks))) {l : List (Str × V)} {m : List (Str × D)} (h : RpF K Z ι l m) : RpF K (dropZ Z a) ι l m := Paired.mapP h fun _ _ q => ⟨q.1, q.2.drop hz⟩
theorem EnvR.drop (hz : Z a = some (.frz o (.dK ks))) {ρ : MP.Env} {σ : L2.St} (e : EnvR K Z ι ρ σ) : EnvR K (dropZ Z a) ι ρ σ := ⟨e.len, fun i d h => let ⟨v, h1, h2⟩ := e.at_ i d h; ⟨v, h1, h2.drop hz⟩⟩
theorem tabs_drop {Z : Hp} {a : Addr} {o : Obj} {u : HO} (hz : Z a = some (.frz o u)) {T : List (Addr × Str)} (h : LamX.Tabs T Z) : LamX.Tabs T (dropZ Z a) := fun p hp => by
  obtain ⟨ps, h1, h2, h3⟩ := h p hp
  refine ⟨ps, ?_, h2, fun pos cv hc => ?_⟩
  · rw [dropZ_ne (fun z => by rw [z, hz] at h1; cases h1)]; exact h1
  · obtain ⟨c, e1, e2⟩ := h3 pos cv hc
    refine ⟨c, e1, ?_⟩
    rw [dropZ_ne (fun z => by rw [z, hz] at e2; cases e2)]; exact e2
theorem ObR.drop {H : Hp} {b : Addr} {ob : Ob} (hz : Z a = some (.frz o (.dK ks))) (hb : b ≠ a) {u : HO} (h : ObR K Z ι H b ob) : ObR K (dropZ Z a) ι (upd H a u) b ob := by
  have e1 : ∀ {w : HO}, H b = some w → upd H a u b = some w := fun q => by rw [upd_ne hb]; exact q
  cases ob with
  | gone => obtain ⟨w, q⟩ := h; exact ⟨w, e1 q⟩
  | lst ds => obtain ⟨z, xs, q, r⟩ := h; exact ⟨by rw [dropZ_ne hb]; exact z, xs, e1 q, r.dropD hz⟩
  | dct ds => obtain ⟨z, xs, q, r⟩ := h; exact ⟨by rw [dropZ_ne hb]; exact z, xs, e1 q, r.drop hz⟩
  | ins C fs => obtain ⟨z, dx, gs, q, r⟩ := h; exact ⟨by rw [dropZ_ne hb]; exact z, dx, gs, e1 q, r.drop hz⟩
  | dfz ds => obtain ⟨⟨w, q⟩, o', xs, z, r⟩ := h; exact ⟨⟨w, e1 q⟩, o', xs, by rw [dropZ_ne hb]; exact z, r.drop hz⟩
  | dn ds => obtain ⟨z, ks, q, r⟩ := h; exact ⟨by rw [dropZ_ne hb]; exact z, ks, e1 q, r.drop hz⟩
  | dnz ds => obtain ⟨⟨w, q⟩, o', xs, z, r⟩ := h; exact ⟨⟨w, e1 q⟩, o', xs, by rw [dropZ_ne hb]; exact z, r.drop hz⟩
theorem Rel.unlock {st : Sto} {H : Hp} {n : Nat} {l : List (Key × D)} (r : Rel K st H Z ι) (hn : ι[n]? = some a) (hz : Z a = some (.frz o (.dK ks))) (hr : RpK K Z ι ks l) : Rel K (st.set n (.dct l)) (upd H a (.dK ks)) (dropZ Z a) ι := by
  refine ⟨fun b u e => ?_, tabs_drop hz r.tb, by simp [r.len], r.nd, fun m u b h1 h2 => ?_⟩
  · by_cases hb : b = a
    · subst hb; rw [dropZ_same] at e; cases e
    · rw [dropZ_ne hb] at e; rw [upd_ne hb]; exact r.zin _ _ e
  · by_cases hm : m = n
    · subst hm
      rw [hn] at h2
      cases h2
      rw [List.getElem?_set] at h1
      have hl : m < st.length := by rw [← r.len]; exact (List.getElem?_eq_some_iff.mp hn).1
      rw [if_pos rfl, if_pos hl] at h1
      cases h1
      exact ⟨dropZ_same, ks, upd_same, hr.drop hz⟩
    · rw [List.getElem?_set, if_neg (Ne.symm hm)] at h1
      have hne : b ≠ a := fun z => by
        subst z
        obtain ⟨l1, e1⟩ := List.getElem?_eq_some_iff.mp h2
        obtain ⟨l2, e2⟩ := List.getElem?_eq_some_iff.mp hn
        exact hm (nodup_inj r.nd l1 l2 (e1.trans e2.symm))
      exact (r.ob m u b h1 h2).drop hz hne
/-- from the lock to behind it -/
theorem Grow.unlock {H Z2 H2 : Hp} {ι2 : List Addr} {f u : HO} (hz : Z a = none) (ha : a ∈ ι) (g : Grow (upd Z a f) ι (upd H a f) Z2 ι2 H2) : Grow Z ι H (dropZ Z2 a) ι2 (upd H2 a u) := by
  refine ⟨⟨fun b w e nw => ?_, g.i⟩, ⟨fun b w hb e nw => ?_, fun b ps hb e => ?_⟩, fun b hb => ?_, fun b w e => ?_⟩
  · have hb : b ≠ a := fun z => by rw [z, hz] at e; cases e
    rw [dropZ_ne hb]
    exact g.zs _ _ (by rw [upd_ne hb]; exact e) nw
  · have hne : b ≠ a := fun z => hb (z ▸ ha)
    rw [upd_ne hne]
    exact g.kp.n b w hb (by rw [upd_ne hne]; exact e) nw
  · have hne : b ≠ a := fun z => hb (z ▸ ha)
    rw [upd_ne hne]
    exact g.kp.t b ps hb (by rw [upd_ne hne]; exact e)
  · rcases g.new b hb with q | q
    · exact .inl q
    · by_cases hne : b = a
      · exact .inl (hne ▸ ha)
      · rw [upd_ne hne] at q; exact .inr q
  · have hb : b ≠ a := fun z => by rw [z, dropZ_same] at e; cases e
    rw [dropZ_ne hb] at e
    rcases g.zn b w e with q | q | q
    · rw [upd_ne hb] at q; exact .inl q
    · rw [upd_ne hb] at q; exact .inr (.inl q)
    · exact .inr (.inr q)
end
/-! ### what is done while a dict is walked -/
def lockN (ρ : Env) (i : Nat) (s : Sto) : Option (Nat × List (Key × D)) := match ρ[i]? with
  | some (some (.ref n)) => (match s[n]? with
    | some (.dct l) => some (n, l)
    | _ => none)
  | _ => none
def mLockE (i : Nat) (m : ME) : ME := fun ρ s => match lockN ρ i s with
  | some (n, l) => (match m ρ (s.set n (.dfz l)) with
    | some (.ok d s2) => some (.ok d (s2.set n (.dct l)))
    | _ => none)
  | none => none
section
variable {X : Cx} {W : WX} {e tg iter : Expr} {st : Stmt} {m : ME} {ms : MS}
/-! ### keys, pairs -/
def keyD : Key → D
  | .inl i => .int i
  | .inr z => .str z
def fz? (s : Sto) : D → Option (List (Key × D))
  | .ref n => (match s[n]? with
    | some (.dfz l) => some l
    | _ => none)
  | _ => none
def miKeys (a : ME) : MI := fun ρ s => bnd (a ρ s) fun d s => match fz? s d with
  | some l => some (.ok (l.map fun kv => keyD kv.1, any_) s)
  | none => none
def miItems (a : ME) : MI := fun ρ s => bnd (a ρ s) fun d s => match fz? s d with
  | some l => some (.ok (l.map fun kv => .tup [keyD kv.1, kv.2], any_) s)
  | none => none
end
end MP


set_option Elab.async false
set_option linter.all false
set_option maxRecDepth 100000
set_option maxHeartbeats 4000000
/-! MPM: dict comprehensions -/
namespace MP
variable [Wd]
open PySem L2 PyProof.Rows
noncomputable def dcL (G : Sto → Prop) (g : MG) (c : MT) (mk mv : ME) (ρ : Env) : List D → List (Key × D) → Sto → RO (List (Key × D))
  | [], acc, s => still G s (some (.ok acc s))
  | d :: ds, acc, s => still G s (bnd (noX (g d ρ s)) fun ρ1 s => bnd (noX (c ρ1 s)) fun k s => if k = true then bnd (noX (mk ρ1 s)) fun y s => bnd (noX (mv ρ1 s)) fun z s => (match key? y with
    | some ky => dcL G g c mk mv ρ ds (putD acc ky z) s
    | none => none) else dcL G g c mk mv ρ ds acc s)
noncomputable def mDc (mi : MI) (vs : List Nat) (g : MG) (c : MT) (mk mv : ME) : ME := fun ρ s => bnd (bnd (mi ρ s) fun src s => if src.1.length ≤ 16777216 then dcL src.2 g c mk mv (wipeE ρ vs) src.1 [] s else none) fun l s => some (.ok (.ref s.length) (s ++ [.dct l]))
section
variable {X : Cx} {W : WX} {kx vx tg iter : Expr} {ifs : List Expr} {scope : Scope} {own : List (Str × Nat)} {pos : Pos} {mi : MI} {g : MG} {gt : TG} {c : MT} {mk mv : ME}
end
end MP


set_option Elab.async false
set_option linter.all false
set_option maxRecDepth 100000
set_option maxHeartbeats 4000000
/-! MPN: what of the heap own items and plain properties must have -/
namespace MP
variable [Wd]
open PySem L2 PyProof.Rows
def itmB (K : PySem.W.Frag) (C m : Str) : Bool := decide (PySem.W.mroIn K (He.ga K C) (.type "collections.deque") = some false) && PySem.W.fnIn K (He.ma K (He.ga K C) m)
theorem itm_of {K : PySem.W.Frag} {C m : Str} (h : itmB K C m = true) (hm : Meth K (He.ga K C) m (He.ma K (He.ga K C) m)) : ItmC K C (He.fAd K (C, some m)) m := by
  obtain ⟨h1, h2⟩ := He.ba h
  exact ⟨of_decide_eq_true h1, hm.at_, hm.fn, h2⟩
/-! ### o.f = e as a target -/
def gmFld (C f : Str) (o : ME) : MG := fun d ρ s => bnd (noX (o ρ s)) fun x s => match ins? s C x with
  | some nf => if nf.2.length < 1000 then some (.ok ρ (s.set nf.1 (.ins C (putFD f d nf.2)))) else none
  | none => none
end MP


set_option Elab.async false
set_option linter.all false
set_option maxRecDepth 100000
set_option maxHeartbeats 4000000
/-! MPO: a list beside the empty list -/
namespace MP
variable [Wd]
open PySem L2 PyProof.Rows
theorem list_ne_len (l : Addr) (items : Array Value) (n : Nat) (b : Addr) (items2 : Array Value) (n2 : Nat) (hc0 : (items.size != items2.size) = true) :
    Meets (Builtin.«list.__ne__» ⟨[.ref l, .ref b], []⟩) (fun _ R s => s.heap.get? l = some { cls := .type "list", dict := none, data := .seq items n, slots := #[] } ∧ s.heap.get? b = some { cls := .type "list", dict := none, data := .seq items2 n2, slots := #[] } ∧ R (.ok (.ret (Value.bool (CmpOp.NotEq == CmpOp.NotEq)))) { s with heap := s.heap, toks := s.toks }) :=
  .of_wp fun prog w A R s h => by obtain ⟨hp, g, d, tk, os⟩ := s; obtain ⟨hl, hb, h⟩ := h; have f1 := AutoSeq1.idx_int; have f3 := AutoSeq1.sub_list_list; wp_walk using wpAny_loadPart' hl, wpAny_loadPart' hb; exact ⟨_, rfl, h⟩
def rNilE (neg : Bool) : R2 := fun x y H Q => ∃ (a b : Addr) (xs : List V), x = .ref a ∧ y = .ref b ∧ H a = some (.lst xs) ∧ H b = some (.lst []) ∧ Q (.bl (if neg then !xs.isEmpty else xs.isEmpty)) H
section
variable {X : Cx}
theorem lst_obj {pins : List (Addr × Obj)} {σ : L2.St} {H : Hp} {s : Shared} {a : Addr} {xs : List V} (I : Inv X pins σ H s) (h : H a = some (.lst xs)) : ∃ (its : List Value) (n : Nat), Vals xs its ∧ s.heap.get? a = some { cls := .type "list", dict := none, data := .seq its.toArray n, slots := #[] } := by
  obtain ⟨z, its, n, r, e⟩ := (show ObjOk X.prog X.w H s.heap a (.lst xs) from I.hok a _ h)
  exact ⟨its, n, r, e⟩
theorem op_eqN (hu : X.A.units + 64 < cLine) : OpR X (compareOp .Eq) (rNilE false) := by
  intro pins s σ H x y v u Q I rx ry h
  obtain ⟨a, b, xs, ex, ey, ha, hb, q⟩ := h
  cases xs with
  | nil => exact op_eqD hu pins s σ H x y v u Q I rx ry ⟨.list [], .list [], by subst ex; exact .lst (SqL.of ha) .nil, by subst ey; exact .lst (SqL.of hb) .nil, by decide, by decide, by simpa [PyData.eqv, PyData.eqvAll] using q⟩
  | cons z zs =>
    subst ex ey
    obtain rfl : v = Value.ref a := rx
    obtain rfl : u = Value.ref b := ry
    obtain ⟨its, n, r1, e1⟩ := lst_obj I ha
    obtain ⟨its2, n2, r2, e2⟩ := lst_obj I hb
    have l1 := r1.length
    have l2 := r2.length
    refine P.eq_list_lengths e1 e2 ?_ (by omega) ⟨.bl false, H, I, rfl, q⟩
    simp only [List.size_toArray, ← l1, ← l2]
    simp
theorem op_neN (hu : X.A.units + 64 < cLine) : OpR X (compareOp .NotEq) (rNilE true) := by
  intro pins s σ H x y v u Q I rx ry h
  obtain ⟨a, b, xs, ex, ey, ha, hb, q⟩ := h
  cases xs with
  | nil => exact op_neD hu pins s σ H x y v u Q I rx ry ⟨.list [], .list [], by subst ex; exact .lst (SqL.of ha) .nil, by subst ey; exact .lst (SqL.of hb) .nil, by decide, by decide, by simpa [PyData.eqv, PyData.eqvAll] using q⟩
  | cons z zs =>
    subst ex ey
    obtain rfl : v = Value.ref a := rx
    obtain rfl : u = Value.ref b := ry
    obtain ⟨its, n, r1, e1⟩ := lst_obj I ha
    obtain ⟨its2, n2, r2, e2⟩ := lst_obj I hb
    have l1 := r1.length
    have l2 := r2.length
    refine richCompare_meets_room (op := .NotEq) ⟨_, e1, rfl⟩ ⟨_, e2, rfl⟩ PySem.F.slot_list_ne PySem.F.entry_list_ne (PySem.F.args_list_ne_2 _ _) (list_ne_len a its.toArray n b its2.toArray n2 ?_)
      ⟨e1, e2, show Value.bool true ≠ Value.notImplemented ∧ _ from ⟨(fun x => nomatch x), ⟨.bl true, H, I, rfl, q⟩⟩⟩ (by omega)
    simp only [List.size_toArray, ← l1, ← l2]
    simp
end
def fNil (neg : Bool) (s : Sto) (x y : D) : Option D := match lst? s x, y with
  | some l, .lst [] => some (.bl (if neg then !l.isEmpty else l.isEmpty))
  | _, _ => none
theorem os_nil {K : PySem.W.Frag} {neg : Bool} : OpS K (fNil neg) (rNilE neg) := fun st x y d v u H Z ι Q hf r hx hy k => by
  unfold fNil at hf
  cases h1 : lst? st x with
  | none => rw [h1] at hf; cases hf
  | some l =>
    rw [h1] at hf
    cases hy with
    | @lst b ys ds h q =>
      cases ds with
      | cons _ _ => cases hf
      | nil =>
        cases q
        cases hf
        obtain ⟨a, xs, rfl, hH, hr⟩ := lst_sq r hx h1
        have e : xs.isEmpty = l.isEmpty := by
          cases hr with
          | nil => rfl
          | cons _ _ => rfl
        refine ⟨a, b, xs, rfl, rfl, hH, r.zin _ _ h, ?_⟩
        rw [e]
        exact k _ _ _ (Grow.refl _ _ _) r (.bl _)
    | _ => cases hf
end MP


set_option Elab.async false
set_option linter.all false
set_option maxRecDepth 100000
set_option maxHeartbeats 4000000
/-! MPP: the head's facts of a smaller part of the heap -/
namespace MP
variable [Wd]
open PySem PySem.Spec PyProof.Rows L2
def refK (o : Obj) : List Addr := match o.data with
  | .func fd => He.refV fd.code ++ He.refV fd.defaults
  | .cls cd => [cd.ns]
  | .dict es _ => es.toList.flatMap fun e => He.refV e.val
  | .seq its _ => its.toList.flatMap He.refV
  | .fields vs => (match o.cls with
    | .type t => if t = "property" then vs.toList.flatMap He.refV else []
    | _ => [])
  | _ => []
def stepK (g : Addr → Option Obj) (as : List Addr) : List Addr := as.flatMap fun a => match g a with
  | some o => refK o
  | none => []
def asE (g : Addr → Option Obj) : List Addr := (fun l1 => (fun l2 => (fun l3 => (fun l4 => mainGlobals :: (l1 ++ (l2 ++ (l3 ++ (l4 ++ stepK g l4))))) (stepK g l3)) (stepK g l2)) (stepK g l1)) (stepK g [mainGlobals])
def obsE (fa : List He.Fa) (fn : List He.DefD) (ts : List He.Tab) (ex : PySem.W.Frag → Bool) (g : Addr → Option Obj) : He.AlX := (He.obsT fa fn ts (He.frG g (asE g)), ex (He.frG g (asE g)))
def hookE (fa : List He.Fa) (fn : List He.DefD) (ts : List He.Tab) (ex : PySem.W.Frag → Bool) : PySem.W.Hook where
  α := He.AlX
  obs := fun s => obsE fa fn ts ex s.heap.get?
  val := fun w => He.valX fn ts w
  says := fun w h => ∃ K : PySem.W.Frag, K.In h ∧ He.SaysX fa fn ts [] ex w h K
  of := fun _ s e => ⟨_, He.frG_in, ⟨congrArg (fun z : He.AlX => z.1) e, congrArg (fun z : He.AlX => z.2) e, (fun _ h => nomatch h), (fun _ h => nomatch h), (fun _ h => nomatch h)⟩⟩
  keeps := fun _ _ _ ⟨K, hK, c⟩ k => ⟨K, PySem.W.Frag.In.keeps hK k, ⟨c.t, c.more, c.hd, c.out, fun p hp => k _ _ (c.empty p hp)⟩⟩
omit [Wd] in
theorem obsE_eq {fa : List He.Fa} {fn : List He.DefD} {ts : List He.Tab} {ex : PySem.W.Frag → Bool} {g : Addr → Option Obj} {s : Shared} (h : ∀ a, g a = s.heap.get? a) : obsE fa fn ts ex g = (hookE fa fn ts ex).obs s := by
  have e : g = s.heap.get? := funext h
  rw [e] <;> rfl
end MP


set_option Elab.async false
set_option linter.all false
set_option maxRecDepth 100000
set_option maxHeartbeats 4000000
/-! MPD6: dicts with nested keys: readings over the store -/
namespace MP
variable [Wd]
open PySem L2 PyProof.Rows
/-! ### keys -/
mutual
theorem nky {K : PySem.W.Frag} {Z H : Hp} {ι : List Addr} (z : Same Z H) : ∀ {v : V} {d : D} {k : NestedKey}, Rp K Z ι v d → keyN d = some k → NKy K H k v
  | _, _, _, .non, e => by
    cases e
    intro _ _ r
    cases (show _ = Value.none from r)
    exact .none
  | _, _, _, .bl _, e => nomatch e
  | _, _, _, .int i, e => by
    cases e
    intro _ _ r
    obtain ⟨t, rfl⟩ := r
    exact .int i t
  | _, _, _, .str x, e => by
    cases e
    intro _ _ r
    obtain ⟨t, rfl⟩ := r
    exact .text x t
  | _, _, _, .lst _ _, e => nomatch e
  | _, .tup l, _, .tup h r, e => by
    unfold keyN at e
    obtain ⟨ks, e1, rfl⟩ := Option.map_eq_some_iff.mp e
    intro hK I ru
    cases (show _ = Value.ref _ from ru)
    subst hK
    obtain ⟨its, rv, ⟨o, ho, hc, n, hd⟩, _⟩ := I.tuple (same_sqt z h)
    exact .tup ho hc hd (nkys z r e1 rfl I rv)
  | _, _, _, .dct _ _ _, e => nomatch e
  | _, _, _, .ref _, e => nomatch e
  | _, _, _, .scr _, e => nomatch e
theorem nkys {K : PySem.W.Frag} {Z H : Hp} {ι : List Addr} (z : Same Z H) : ∀ {vs : List V} {ds : List D} {ks : List NestedKey}, RpL K Z ι vs ds → keyNs ds = some ks → ∀ {X : Cx} {pins : List (Addr × Obj)} {σ : L2.St} {s : Shared} {us : List Value}, X.K = K → Inv X pins σ H s → Vals vs us → NestedAll s.heap ks us
  | _, _, _, .nil, e, _, _, _, _, _, _, _, rv => by
    cases rv
    unfold keyNs at e
    cases e
    exact .nil
  | _, d :: l, _, .cons h r, e, _, _, _, _, _, hK, I, rv => by
    cases rv with
    | cons r1 r2 =>
      unfold keyNs at e
      obtain ⟨k, e1, e2⟩ := Option.bind_eq_some_iff.mp e
      obtain ⟨ks, e3, rfl⟩ := Option.map_eq_some_iff.mp e2
      exact .cons (nky z h e1 hK I r1) (nkys z r e3 hK I r2)
end
def nk? (d : D) : Option NestedKey := match keyN d with
  | some (.text _) => none
  | some k => if k.depth ≤ 8 then some k else none
  | none => none
theorem nk_key {d : D} {k : NestedKey} (h : nk? d = some k) : keyN d = some k ∧ k.depth ≤ 8 ∧ ∀ x, k ≠ .text x := by
  unfold nk? at h
  split at h
  · cases h
  · rename_i k' nt hk
    split at h
    · rename_i hl
      cases h
      exact ⟨hk, hl, fun x e => nt x e⟩
    · cases h
  · cases h
theorem nko {K : PySem.W.Frag} {Z H : Hp} {ι : List Addr} {v : V} {d : D} {k : NestedKey} (z : Same Z H) (r : Rp K Z ι v d) (h : nk? d = some k) : NKo K H k v := by
  obtain ⟨h1, h2, h3⟩ := nk_key h
  exact ⟨nky z r h1, h2, h3⟩
/-! ### entries -/
def nd? (s : Sto) : D → Option (List (D × D))
  | .ref n => match s[n]? with
    | some (.dn l) => some l
    | some (.dnz l) => some l
    | _ => none
  | _ => none
def placeD (l : List (D × D)) (k : NestedKey) : Option Nat := l.findIdx? fun q => decide (keyN q.1 = some k)
def getNd (l : List (D × D)) (k : NestedKey) : Option D := (placeD l k).bind fun j => l[j]?.map (·.2)
def putNd (l : List (D × D)) (k : NestedKey) (y v : D) : List (D × D) := match placeD l k with
  | some j => l.modify j fun x => (x.1, v)
  | none => l ++ [(y, v)]
section
variable {K : PySem.W.Frag} {Z H : Hp} {ι : List Addr} {st : Sto}
theorem RpN.keys {ks : List NV} {l : List (D × D)} (z : Same Z H) (h : RpN K Z ι ks l) : NKs K H ks := by
  intro p hp
  unfold RpN at h
  induction h with
  | nil => cases hp
  | cons a t ih =>
    rcases List.mem_cons.mp hp with e | e
    · subst e
      exact ⟨nky z a.2.2.1 a.1, a.2.1⟩
    · exact ih e
theorem RpN.place {ks : List NV} {l : List (D × D)} (h : RpN K Z ι ks l) (k : NestedKey) : placeV ks k = placeD l k := by
  unfold RpN at h
  unfold placeV placeD
  induction h with
  | nil => rfl
  | cons a t ih =>
    rw [List.findIdx?_cons, List.findIdx?_cons, ih, a.1]
    simp
theorem RpN.at_ {ks : List NV} {l : List (D × D)} (h : RpN K Z ι ks l) : ∀ j : Nat, (ks[j]? = none ∧ l[j]? = none) ∨ ∃ p q, ks[j]? = some p ∧ l[j]? = some q ∧ Rp K Z ι p.2.1 q.1 ∧ Rp K Z ι p.2.2 q.2 := by
  unfold RpN at h
  induction h with
  | nil => exact fun j => .inl ⟨by simp, by simp⟩
  | cons a t ih =>
    intro j
    cases j with
    | zero => exact .inr ⟨_, _, rfl, rfl, a.2.2.1, a.2.2.2⟩
    | succ j => simpa using ih j
theorem RpN.val {ks : List NV} {l : List (D × D)} (h : RpN K Z ι ks l) (k : NestedKey) : (getNd l k = none ∧ valN ks k = none) ∨ ∃ d v, getNd l k = some d ∧ valN ks k = some v ∧ Rp K Z ι v d := by
  unfold getNd valN
  rw [h.place k]
  cases placeD l k with
  | none => exact .inl ⟨rfl, rfl⟩
  | some j =>
    show (l[j]?.map (·.2) = none ∧ ks[j]?.map (·.2.2) = none) ∨ _
    rcases h.at_ j with ⟨h1, h2⟩ | ⟨p, q, h1, h2, _, h3⟩
    · exact .inl ⟨by rw [h2]; rfl, by rw [h1]; rfl⟩
    · exact .inr ⟨q.2, p.2.2, by show l[j]?.map (·.2) = _; rw [h2]; rfl, by show ks[j]?.map (·.2.2) = _; rw [h1]; rfl, h3⟩
theorem RpN.len {ks : List NV} {l : List (D × D)} (h : RpN K Z ι ks l) : ks.length = l.length := Paired.length h
theorem rpn_mod {d : D} {v : V} (r : Rp K Z ι v d) {ks : List NV} {l : List (D × D)} (h : RpN K Z ι ks l) : ∀ j : Nat, RpN K Z ι (ks.modify j fun x => (x.1, x.2.1, v)) (l.modify j fun x => (x.1, d)) := by
  unfold RpN at h ⊢
  induction h with
  | nil => intro j; cases j <;> exact .nil
  | cons a t ih =>
    intro j
    cases j with
    | zero => exact .cons ⟨a.1, a.2.1, a.2.2.1, r⟩ t
    | succ j => rw [List.modify_succ_cons, List.modify_succ_cons]; exact .cons a (ih j)
theorem RpN.put {ks : List NV} {l : List (D × D)} {y v : V} {yd d : D} {k : NestedKey} (h : RpN K Z ι ks l) (hk : nk? yd = some k) (ry : Rp K Z ι y yd) (r : Rp K Z ι v d) : RpN K Z ι (putV ks k y v) (putNd l k yd d) := by
  obtain ⟨h1, h2, _⟩ := nk_key hk
  unfold putV putNd
  rw [h.place k]
  cases placeD l k with
  | none => exact paired_append h (.cons ⟨h1, h2, ry, r⟩ .nil)
  | some j => exact rpn_mod r h j
theorem nd_at {v : V} {x : D} {l : List (D × D)} (r : Rel K st H Z ι) (h : Rp K Z ι v x) (hd : nd? st x = some l) : ∃ a ks, v = .ref a ∧ Rd H a (dnO Wd.w a ks) ∧ RpN K Z ι ks l := by
  cases h with
  | @ref n a hn =>
    unfold nd? at hd
    dsimp only at hd
    obtain ⟨o, hs, hob⟩ := r.at_ hn
    rw [hs] at hd
    cases o with
    | dn l' => cases hd; obtain ⟨_, ks, e, q⟩ := hob; exact ⟨a, ks, rfl, .inl e, q⟩
    | dnz l' => cases hd; obtain ⟨_, o, ks, e, q⟩ := hob; exact ⟨a, ks, rfl, .inr ⟨o, r.zin _ _ e⟩, q⟩
    | _ => cases hd
  | _ => cases hd
end
/-! ### readings -/
def mNGet (a b : ME) : ME := fun ρ s => bnd (a ρ s) fun x s => bnd (b ρ s) fun y s => match nd? s x, nk? y with
  | some l, some k => ofO (getNd l k) s
  | _, _ => none
def mNGet1 (a b : ME) : ME := fun ρ s => bnd (a ρ s) fun x s => if (nd? s x).isSome then bnd (b ρ s) fun y s => (match nd? s x, nk? y with
  | some l, some k => some (.ok ((getNd l k).getD .non) s)
  | _, _ => none) else none
def mNIn (i o : ME) : ME := fun ρ s => bnd (i ρ s) fun y s => bnd (o ρ s) fun x s => match nd? s x, nk? y with
  | some l, some k => some (.ok (.bl (getNd l k).isSome) s)
  | _, _ => none
def mNNotIn (i o : ME) : ME := fun ρ s => bnd (i ρ s) fun y s => bnd (o ρ s) fun x s => match nd? s x, nk? y with
  | some l, some k => some (.ok (.bl (!(getNd l k).isSome)) s)
  | _, _ => none
def mNNew : ME := fun _ s => some (.ok (.ref s.length) (s ++ [.dn []]))
def mNPut (v o i : ME) : MS := fun ρ s => bndS (v ρ s) ρ fun d s => bndS (o ρ s) ρ fun x s => bndS (i ρ s) ρ fun y s => match x, nk? y with
  | .ref n, some k => (match s[n]? with
    | some (.dn l) => if l.length < 16777216 then some (.nx ρ (s.set n (.dn (putNd l k y d)))) else none
    | _ => none)
  | _, _ => none
section
variable {X : Cx} {W : WX} {o i e value : Expr} {pos pos' apos : Pos} {mo mi me : ME}
theorem dgetN_of {K : PySem.W.Frag} {st : Sto} {H Z : Hp} {ι : List Addr} {v y : V} {x yd : D} {l : List (D × D)} {k : NestedKey} (hw : X.w = Wd.w) (hK : X.K = K) (r : Rel K st H Z ι) (rx : Rp K Z ι v x) (ry : Rp K Z ι y yd) (hd : nd? st x = some l) (hk : nk? yd = some k) :
    ∃ a, v = .ref a ∧ IsN X H a ∧ ((getNd l k = none ∧ DGetN X H a y none) ∨ ∃ d u, getNd l k = some d ∧ DGetN X H a y (some u) ∧ Rp K Z ι u d) := by
  subst hK
  obtain ⟨a, ks, rfl, hH, hr⟩ := nd_at r rx hd
  rw [← hw] at hH
  refine ⟨a, rfl, ⟨ks, hH⟩, ?_⟩
  rcases hr.val k with ⟨h1, h2⟩ | ⟨d, u, h1, h2, h3⟩
  · exact .inl ⟨h1, ks, k, hH, hr.keys r.zin, nko r.zin ry hk, h2.symm⟩
  · exact .inr ⟨d, u, h1, ⟨ks, k, hH, hr.keys r.zin, nko r.zin ry hk, h2.symm⟩, h3⟩
theorem nin_of {K : PySem.W.Frag} {st : Sto} {H Z : Hp} {ι : List Addr} {v y : V} {x yd : D} {l : List (D × D)} {k : NestedKey} (hw : X.w = Wd.w) (hK : X.K = K) (r : Rel K st H Z ι) (rx : Rp K Z ι v x) (ry : Rp K Z ι y yd) (hd : nd? st x = some l) (hk : nk? yd = some k) :
    ∃ a ov, v = .ref a ∧ DGetN X H a y ov ∧ ov.isSome = (getNd l k).isSome := by
  obtain ⟨a, rfl, _, c⟩ := dgetN_of hw hK r rx ry hd hk
  rcases c with ⟨h1, h2⟩ | ⟨d, w, h1, h2, _⟩
  · exact ⟨a, none, rfl, h2, by rw [h1]; rfl⟩
  · exact ⟨a, some w, rfl, h2, by rw [h1]; rfl⟩
theorem sd_nIn (hw : X.w = Wd.w) (hu : X.A.units + 9 < cLine) (hi : Sd X W i mi) (ho : Sd X W o mo) (hm : behindInMarks .In o = false := by first | exact nomark _ | rfl) : Sd X W (.Compare i [.In] [o] pos) (mNIn mi mo) := by
  refine pe_imp (pe_cmp (pc_dinN' hu hi ho) hm) fun σ H Q ⟨ρ, st, Z, ι, en, r0, p⟩ => ?_
  refine rdG.mono (kont en r0 p) fun u H1 ⟨st1, Z1, ι1, y, g1, e1, r1, ry, p1⟩ => ?_
  refine rdG.mono (kont e1 r1 p1) fun v H2 ⟨st2, Z2, ι2, x, g2, e2, r2, rx, p2⟩ => ?_
  cases hd : nd? st2 x with
  | none => rw [hd] at p2; exact p2.elim
  | some l => cases hk : nk? y with
    | none => rw [hd, hk] at p2; exact p2.elim
    | some k =>
      rw [hd, hk] at p2
      dsimp only at p2
      obtain ⟨a, ov, rfl, h2, h3⟩ := nin_of hw rfl r2 rx (ry.mono g2.toExt) hd hk
      exact ⟨a, ov, rfl, h2, by rw [h3]; exact p2 _ _ _ _ (Grow.refl _ _ _) r2 (.bl _)⟩
theorem ss_nput (hw : X.w = Wd.w) (hu : X.A.units + 9 < cLine) (ho : Sd X W o mo) (hi : Sd X W i mi) (hv : Sd X W value me) (hs : swapsWith value (some (.Subscript o i pos')) pos.line X.env = pure false := by rfl) :
    SdS X W (.Assign [.Subscript o i pos'] value pos) (mNPut me mo mi) := by
  refine ps_imp (ps_dputN hu ho hi hv hs) fun E σ H ⟨ρ, st, Z, ι, en, r, p⟩ => ?_
  refine rdG.mono (skont en r p) fun v H1 ⟨st1, Z1, ι1, d, g1, e1, r1, rd1, p1⟩ => ?_
  refine rdG.mono (skont e1 r1 p1) fun w H2 ⟨st2, Z2, ι2, x, g2, e2, r2, rx, p2⟩ => ?_
  refine rdG.mono (skont e2 r2 p2) fun u H3 ⟨st3, Z3, ι3, y, g3, e3, r3, ry, p3⟩ => ?_
  cases rx with
  | @ref n a hn =>
    cases hk : nk? y with
    | none => rw [hk] at p3; exact p3.elim
    | some k =>
      rw [hk] at p3
      dsimp only at p3
      have hn3 := g3.toExt.get hn
      obtain ⟨ob, hs, hob⟩ := r3.at_ hn3
      rw [hs] at p3
      cases ob with
      | dn l =>
        dsimp only at p3
        split at p3
        · rename_i hl
          obtain ⟨hz, ks, hH, hr⟩ := hob
          have hd := (rd1.mono g2.toExt).mono g3.toExt
          obtain ⟨r4, g4⟩ := r3.change (o := dnO Wd.w a (putV ks k u v)) (ob := .dn (putNd l k y d)) hn3 hz fun H' e' => ⟨hz, _, e', hr.put hk ry hd⟩
          refine ⟨a, _, rfl, ⟨ks, k, by rw [hw]; exact hH, hr.keys r3.zin, nko r3.zin ry hk, by rw [hr.len, sizeLine_eq]; exact hl, rfl⟩, ?_⟩
          rw [hw]
          exact PostS.nx_ (p3.grow g4) (e3.mono g4.toExt) r4
        · exact p3.elim
      | _ => exact p3.elim
  | _ => exact p3.elim
end
end MP


set_option Elab.async false
set_option linter.all false
set_option maxRecDepth 100000
set_option maxHeartbeats 4000000
/-! MPD7: dicts with nested keys: walked (locked), their keys as a list, displays, comprehensions, tests -/
namespace MP
variable [Wd]
open PySem L2 PyProof.Rows
section
variable {K : PySem.W.Frag} {Z : Hp} {ι : List Addr} {a : Addr} {o : Obj} {F : Heap → Prop}
theorem stays {b : Addr} {u : HO} (hz : Z a = some (.frz o (.ext F))) (h : Z b = some u) (hn : ∀ o' F', u ≠ .frz o' (.ext F')) : dropZ Z a b = some u := by
  by_cases e : b = a
  · rw [e, hz] at h
    exact absurd (Option.some.inj h).symm (hn o F)
  · rw [dropZ_ne e, h]
theorem stays_t {b : Addr} {xs : List V} (hz : Z a = some (.frz o (.ext F))) (h : SqT K Z b xs) : SqT K (dropZ Z a) b xs := by
  rcases h with (h | ⟨o', h⟩) | h
  · exact .inl (.inl (stays hz h fun _ _ e => nomatch e))
  · exact .inl (.inr ⟨o', stays hz h fun _ _ e => nomatch e⟩)
  · exact .inr h
theorem stays_l {b : Addr} {xs : List V} (hz : Z a = some (.frz o (.ext F))) (h : SqL K Z b xs) : SqL K (dropZ Z a) b xs := by
  rcases h with (h | ⟨o', h⟩) | h
  · exact .inl (.inl (stays hz h fun _ _ e => nomatch e))
  · exact .inl (.inr ⟨o', stays hz h fun _ _ e => nomatch e⟩)
  · exact .inr h
mutual
theorem Rp.open_ (hz : Z a = some (.frz o (.ext F))) : ∀ {v : V} {d : D}, Rp K Z ι v d → Rp K (dropZ Z a) ι v d
  | _, _, .non => .non
  | _, _, .bl b => .bl b
  | _, _, .int i => .int i
  | _, _, .str s => .str s
  | _, _, .ref h => .ref h
  | _, _, .lst h r => .lst (stays hz h fun _ _ e => nomatch e) (RpL.open_ hz r)
  | _, _, .tup h r => .tup (stays_t hz h) (RpL.open_ hz r)
  | _, _, .dct hl h r => .dct hl (stays hz h fun _ _ e => nomatch e) (RpL.open_ hz r)
  | _, _, .scr h => .scr (stays_l hz h)
theorem RpL.open_ (hz : Z a = some (.frz o (.ext F))) : ∀ {vs : List V} {ds : List D}, RpL K Z ι vs ds → RpL K (dropZ Z a) ι vs ds
  | _, _, .nil => .nil
  | _, _, .cons h r => .cons (Rp.open_ hz h) (RpL.open_ hz r)
end
theorem RpK.open_ (hz : Z a = some (.frz o (.ext F))) {l : List (Key × V)} {m : List (Key × D)} (h : RpK K Z ι l m) : RpK K (dropZ Z a) ι l m := Paired.mapP h fun _ _ q => ⟨q.1, q.2.open_ hz⟩
theorem RpN.open_ (hz : Z a = some (.frz o (.ext F))) {l : List NV} {m : List (D × D)} (h : RpN K Z ι l m) : RpN K (dropZ Z a) ι l m := Paired.mapP h fun _ _ q => ⟨q.1, q.2.1, q.2.2.1.open_ hz, q.2.2.2.open_ hz⟩
theorem RpF.open_ (hz : Z a = some (.frz o (.ext F))) {l : List (Str × V)} {m : List (Str × D)} (h : RpF K Z ι l m) : RpF K (dropZ Z a) ι l m := Paired.mapP h fun _ _ q => ⟨q.1, q.2.open_ hz⟩
theorem EnvR.open_ (hz : Z a = some (.frz o (.ext F))) {ρ : MP.Env} {σ : L2.St} (e : EnvR K Z ι ρ σ) : EnvR K (dropZ Z a) ι ρ σ := ⟨e.len, fun i d h => let ⟨v, h1, h2⟩ := e.at_ i d h; ⟨v, h1, h2.open_ hz⟩⟩
theorem apart {st : Sto} {H : Hp} {n m : Nat} {b : Addr} (r : Rel K st H Z ι) (hn : ι[n]? = some a) (hm : ι[m]? = some b) (ne : m ≠ n) : b ≠ a := fun e => by
  obtain ⟨l1, e1⟩ := List.getElem?_eq_some_iff.mp hn
  obtain ⟨l2, e2⟩ := List.getElem?_eq_some_iff.mp hm
  exact ne (nodup_inj r.nd l2 l1 (by rw [e1, e2, e]))
theorem Rel.lockN {st : Sto} {H : Hp} {n : Nat} {l : List (D × D)} (r : Rel K st H Z ι) (hs : st[n]? = some (.dn l)) (hn : ι[n]? = some a) :
    ∃ ks, H a = some (dnO Wd.w a ks) ∧ Z a = none ∧ RpN K Z ι ks l ∧ ∀ od, Rel K (st.set n (.dnz l)) (upd H a (.frz od (dnO Wd.w a ks))) (upd Z a (.frz od (dnO Wd.w a ks))) ι ∧ Ext Z ι (upd Z a (.frz od (dnO Wd.w a ks))) ι := by
  obtain ⟨hz, ks, hH, hr⟩ := r.ob n _ a hs hn
  refine ⟨ks, hH, hz, hr, fun od => ?_⟩
  have g : Ext Z ι (upd Z a (.frz od (dnO Wd.w a ks))) ι := ⟨Same.nt (same_upd hz), [], (List.append_nil ι).symm⟩
  have hl : n < st.length := (List.getElem?_eq_some_iff.mp hs).1
  refine ⟨⟨fun b u e => ?_, r.tb.ext (same_upd hz), by rw [List.length_set, r.len], r.nd, fun m ob b h1 h2 => ?_⟩, g⟩
  · by_cases hb : b = a
    · subst hb; rw [upd_same] at e ⊢; exact e
    · rw [upd_ne hb] at e ⊢; exact r.zin _ _ e
  · rcases Nat.decEq m n with ne | rfl
    · rw [List.getElem?_set, if_neg (Ne.symm ne)] at h1
      have hne := apart r hn h2 ne
      exact (r.ob m ob b h1 h2).keep g (fun z => by rw [upd_ne hne]; exact z) fun w q => by rw [upd_ne hne]; exact q
    · rw [hn] at h2
      cases h2
      rw [List.getElem?_set, if_pos rfl, if_pos hl] at h1
      cases h1
      exact ⟨⟨_, upd_same⟩, od, ks, upd_same, hr.mono g⟩
theorem ObR.open_ {H : Hp} {b : Addr} {ob : Ob} (hz : Z a = some (.frz o (.ext F))) (hb : b ≠ a) {u : HO} (h : ObR K Z ι H b ob) : ObR K (dropZ Z a) ι (upd H a u) b ob := by
  have e1 : ∀ {w : HO}, H b = some w → upd H a u b = some w := fun q => by rw [upd_ne hb]; exact q
  have e2 : ∀ {w : Option HO}, Z b = w → dropZ Z a b = w := fun q => by rw [dropZ_ne hb]; exact q
  cases ob with
  | gone => obtain ⟨w, q⟩ := h; exact ⟨w, e1 q⟩
  | lst ds => obtain ⟨z, xs, q, r⟩ := h; exact ⟨e2 z, xs, e1 q, r.open_ hz⟩
  | dct ds => obtain ⟨z, xs, q, r⟩ := h; exact ⟨e2 z, xs, e1 q, r.open_ hz⟩
  | ins C fs => obtain ⟨z, dx, gs, q, r⟩ := h; exact ⟨e2 z, dx, gs, e1 q, r.open_ hz⟩
  | dfz ds => obtain ⟨⟨w, q⟩, o', xs, z, r⟩ := h; exact ⟨⟨w, e1 q⟩, o', xs, e2 z, r.open_ hz⟩
  | dn ds => obtain ⟨z, ks, q, r⟩ := h; exact ⟨e2 z, ks, e1 q, r.open_ hz⟩
  | dnz ds => obtain ⟨⟨w, q⟩, o', ks, z, r⟩ := h; exact ⟨⟨w, e1 q⟩, o', ks, e2 z, r.open_ hz⟩
theorem Rel.unlockN {st : Sto} {H : Hp} {n : Nat} {l : List (D × D)} {ks : List NV} (r : Rel K st H Z ι) (hn : ι[n]? = some a) (hz : Z a = some (.frz o (dnO Wd.w a ks))) (hr : RpN K Z ι ks l) : Rel K (st.set n (.dn l)) (upd H a (dnO Wd.w a ks)) (dropZ Z a) ι := by
  have hl : n < st.length := by rw [← r.len]; exact (List.getElem?_eq_some_iff.mp hn).1
  refine ⟨fun b u e => ?_, tabs_drop hz r.tb, by rw [List.length_set, r.len], r.nd, fun m ob b h1 h2 => ?_⟩
  · have hb : b ≠ a := fun z => by rw [z, dropZ_same] at e; cases e
    rw [dropZ_ne hb] at e
    rw [upd_ne hb]
    exact r.zin _ _ e
  · rcases Nat.decEq m n with ne | rfl
    · rw [List.getElem?_set, if_neg (Ne.symm ne)] at h1
      exact (r.ob m ob b h1 h2).open_ hz (apart r hn h2 ne)
    · rw [hn] at h2
      cases h2
      rw [List.getElem?_set, if_pos rfl, if_pos hl] at h1
      cases h1
      exact ⟨dropZ_same, ks, upd_same, hr.open_ hz⟩
end
/-! ### what is done while such a dict is walked -/
def held (ρ : Env) (i : Nat) (s : Sto) : Option (Nat × List (D × D)) := match ρ[i]? with
  | some (some (.ref n)) => (match s[n]? with
    | some (.dn l) => some (n, l)
    | _ => none)
  | _ => none
def opn (n : Nat) (l : List (D × D)) : Option F → Option F
  | some (.nx ρ s) => some (.nx ρ (s.set n (.dn l)))
  | some (.rt d s) => some (.rt d (s.set n (.dn l)))
  | some (.bk ρ s) => some (.bk ρ (s.set n (.dn l)))
  | some (.ct ρ s) => some (.ct ρ (s.set n (.dn l)))
  | _ => none
def mHeldS (i : Nat) (m : MS) : MS := fun ρ s => match held ρ i s with
  | some (n, l) => opn n l (m ρ (s.set n (.dnz l)))
  | none => none
section
variable {X : Cx} {W : WX} {e tg iter : Expr} {st : Stmt} {m : ME} {ms : MS}
/-! ### keys -/
def ndz? (s : Sto) : D → Option (List (D × D))
  | .ref n => (match s[n]? with
    | some (.dnz l) => some l
    | _ => none)
  | _ => none
def miKeysN (a : ME) : MI := fun ρ s => bnd (a ρ s) fun d s => match ndz? s d with
  | some l => some (.ok (l.map (·.1), any_) s)
  | none => none
theorem ndz_at {K : PySem.W.Frag} {Z : Hp} {ι : List Addr} {st : Sto} {H : Hp} {v : V} {d : D} {l : List (D × D)} (r : Rel K st H Z ι) (h : Rp K Z ι v d) (hf : ndz? st d = some l) : ∃ a o ks, v = .ref a ∧ Z a = some (.frz o (dnO Wd.w a ks)) ∧ RpN K Z ι ks l := by
  cases h with
  | @ref n a hn =>
    unfold ndz? at hf
    dsimp only at hf
    obtain ⟨ob, hs, hob⟩ := r.at_ hn
    rw [hs] at hf
    cases ob with
    | dnz l' => cases hf; obtain ⟨_, o, ks, z, q⟩ := hob; exact ⟨a, o, ks, rfl, z, q⟩
    | _ => cases hf
  | _ => cases hf
theorem si_keysN (hw : X.w = Wd.w) (he : Sd X W e m) : SdI X W tg e (miKeysN m) := by
  refine pi_imp (pi_keysN he) fun σ H Q ⟨ρ, st, Z, ι, en, r, p⟩ => ?_
  refine rdG.mono (kont en r p) fun v H1 ⟨st1, Z1, ι1, d, g1, e1, r1, rd1, p1⟩ => ?_
  cases hf : ndz? st1 d with
  | none => rw [hf] at p1; exact p1.elim
  | some l =>
    rw [hf] at p1
    obtain ⟨a, o, ks, rfl, hz, hr⟩ := ndz_at r1 rd1 hf
    rw [hw]
    refine ⟨a, o, ks, rfl, r1.zin _ _ hz, p1 _ H1 Z1 ι1 (Grow.refl _ _ _) r1 ?_⟩
    intro i st2 H2 Z2 ι2 g2 r2 _
    have hH := r2.zin _ _ (g2.z _ _ hz)
    have hlen : ks.length = l.length := hr.len
    refine ⟨fun d hd => ⟨⟨hH, ?_⟩, fun x H' hy => ?_⟩, fun hi => ⟨hH, by rw [hi, hlen, List.length_map]; exact Nat.le_refl _⟩⟩
    · have := (List.getElem?_eq_some_iff.mp hd).1
      rw [List.length_map] at this
      rw [hlen]; exact this
    · obtain ⟨rfl, p', h1, rfl⟩ := hy
      have hd : (l.map (·.1))[i]? = some d := hd
      rcases hr.at_ i with ⟨h2, _⟩ | ⟨p2, q2, h2, h3, h4, _⟩
      · rw [h1] at h2; cases h2
      · rw [h1] at h2
        cases h2
        rw [List.getElem?_map, h3] at hd
        cases hd
        exact ⟨Z2, Grow.refl _ _ _, r2, h4.mono g2⟩
/-! ### list(d) -/
end
/-! ### {None: v} -/
section
variable {X : Cx} {W : WX} {v i o : Expr} {mv mi mo : ME} {j : Nat} {pos kpos : Pos}
/-! ### tests -/
theorem st_nIn (hw : X.w = Wd.w) (hu : X.A.units + 9 < cLine) (hi : Sd X W i mi) (ho : Sd X W o mo) (hm : behindInMarks .In o = false := by first | exact nomark _ | rfl) : SdT X W (.Compare i [.In] [o] pos) (mTst (mNIn mi mo)) := by
  refine pt_imp (pt_cmp (pc_dinN' hu hi ho) hm) fun σ H Q q => ?_
  obtain ⟨ρ, st, Z, ι, en, r0, p⟩ := rdT_tst q
  refine rdG.mono (kont en r0 p) fun u H1 ⟨st1, Z1, ι1, y, g1, e1, r1, ry, p1⟩ => ?_
  refine rdG.mono (kont e1 r1 p1) fun v H2 ⟨st2, Z2, ι2, x, g2, e2, r2, rx, p2⟩ => ?_
  cases hd : nd? st2 x with
  | none => rw [hd] at p2; exact p2.elim
  | some l => cases hk : nk? y with
    | none => rw [hd, hk] at p2; exact p2.elim
    | some k =>
      rw [hd, hk] at p2
      dsimp only at p2
      obtain ⟨a, ov, rfl, h2, h3⟩ := nin_of hw rfl r2 rx (ry.mono g2.toExt) hd hk
      exact ⟨a, ov, rfl, h2, by rw [h3]; exact p2 _ _ _ _ (Grow.refl _ _ _) r2 (.bl _)⟩
theorem st_nNotIn (hw : X.w = Wd.w) (hu : X.A.units + 9 < cLine) (hi : Sd X W i mi) (ho : Sd X W o mo) (hm : behindInMarks .NotIn o = false := by first | exact nomark _ | rfl) : SdT X W (.Compare i [.NotIn] [o] pos) (mTst (mNNotIn mi mo)) := by
  refine pt_imp (pt_cmp (pc_dnotinN' hu hi ho) hm) fun σ H Q q => ?_
  obtain ⟨ρ, st, Z, ι, en, r0, p⟩ := rdT_tst q
  refine rdG.mono (kont en r0 p) fun u H1 ⟨st1, Z1, ι1, y, g1, e1, r1, ry, p1⟩ => ?_
  refine rdG.mono (kont e1 r1 p1) fun v H2 ⟨st2, Z2, ι2, x, g2, e2, r2, rx, p2⟩ => ?_
  cases hd : nd? st2 x with
  | none => rw [hd] at p2; exact p2.elim
  | some l => cases hk : nk? y with
    | none => rw [hd, hk] at p2; exact p2.elim
    | some k =>
      rw [hd, hk] at p2
      dsimp only at p2
      obtain ⟨a, ov, rfl, h2, h3⟩ := nin_of hw rfl r2 rx (ry.mono g2.toExt) hd hk
      exact ⟨a, ov, rfl, h2, by rw [h3]; exact p2 _ _ _ _ (Grow.refl _ _ _) r2 (.bl _)⟩
end
end MP


set_option Elab.async false
set_option linter.all false
set_option maxRecDepth 100000
set_option maxHeartbeats 4000000
/-! MPD8: comprehensions that make dicts with nested keys -/
namespace MP
variable [Wd]
open PySem L2 PyProof.Rows
noncomputable def ndL (G : Sto → Prop) (g : MG) (c : MT) (mk mv : ME) (ρ : Env) : List D → List (D × D) → Sto → RO (List (D × D))
  | [], acc, s => still G s (some (.ok acc s))
  | d :: ds, acc, s => still G s (bnd (noX (g d ρ s)) fun ρ1 s => bnd (noX (c ρ1 s)) fun k s => if k = true then bnd (noX (mk ρ1 s)) fun y s => bnd (noX (mv ρ1 s)) fun z s => (match nk? y with
    | some ky => ndL G g c mk mv ρ ds (putNd acc ky y z) s
    | none => none) else ndL G g c mk mv ρ ds acc s)
noncomputable def mNDc (mi : MI) (vs : List Nat) (g : MG) (c : MT) (mk mv : ME) : ME := fun ρ s => bnd (bnd (mi ρ s) fun src s => if src.1.length ≤ 16777216 then ndL src.2 g c mk mv (wipeE ρ vs) src.1 [] s else none) fun l s => some (.ok (.ref s.length) (s ++ [.dn l]))
theorem putNd_len (l : List (D × D)) (k : NestedKey) (y d : D) : (putNd l k y d).length ≤ l.length + 1 := by
  unfold putNd
  cases placeD l k with
  | none => simp
  | some j => simp
theorem noX_val {α : Type} {x : RO α} {r : R α} (h : noX x = some r) : ∃ a s, r = .ok a s := by
  cases r with
  | ok a s => exact ⟨a, s, rfl⟩
  | ex x' s =>
    unfold noX at h
    split at h <;> cases h
/-- a bound thing that ends with a value -/
theorem bnd_to {α β : Type} {x : RO α} {f : α → Sto → RO β} {b : β} {s' : Sto} (h : bnd (noX x) f = some (.ok b s')) : ∃ a s, noX x = some (.ok a s) ∧ f a s = some (.ok b s') := by
  cases e : noX x with
  | none => rw [e] at h; cases h
  | some r =>
    obtain ⟨a, s, rfl⟩ := noX_val e
    rw [e] at h
    exact ⟨a, s, rfl, h⟩
theorem bnd_noex {α β : Type} {x : RO α} {f : α → Sto → RO β} {u : Xc} {s' : Sto} (h : bnd (noX x) f = some (.ex u s')) : ∃ a s, f a s = some (.ex u s') := by
  cases e : noX x with
  | none => rw [e] at h; cases h
  | some r =>
    obtain ⟨a, s, rfl⟩ := noX_val e
    rw [e] at h
    exact ⟨a, s, h⟩
theorem ndL_noex {G : Sto → Prop} {g : MG} {c : MT} {mk mv : ME} {ρ : Env} {x : Xc} {s : Sto} : ∀ (ds : List D) (acc : List (D × D)) (st : Sto), ndL G g c mk mv ρ ds acc st ≠ some (.ex x s)
  | [], acc, st => fun h => nomatch (still_inv h).2
  | d :: ds, acc, st => fun h => by
    obtain ⟨ρ1, s1, h1⟩ := bnd_noex (still_inv h).2
    obtain ⟨b, s2, h2⟩ := bnd_noex h1
    cases b with
    | false => exact ndL_noex ds acc s2 (by simpa using h2)
    | true =>
      have h2 := (if_pos rfl).symm.trans h2
      obtain ⟨y, s3, h3⟩ := bnd_noex h2
      obtain ⟨z, s4, h4⟩ := bnd_noex h3
      cases hk : nk? y with
      | none => rw [hk] at h4; cases h4
      | some ky => rw [hk] at h4; exact ndL_noex ds _ s4 h4
/-- something else than what stands at L has been done -/
theorem off {Za Zb Ha Hb : Hp} {ιa ιb : List Addr} {L : Addr} {u : HO} (g : Grow Za ιa Ha Zb ιb Hb) (z : Za L = none) (i : L ∉ ιa) (h : Ha L = some u) (nu : NT u := by first | exact nt_ext | (intro ps z; cases z)) : Zb L = none ∧ L ∉ ιb ∧ Hb L = some u := by
  refine ⟨?_, fun q => ?_, g.keep L u i h nu⟩
  · cases e : Zb L with
    | none => rfl
    | some o =>
      rcases g.zn L o e with q | q | q
      · rw [z] at q; cases q
      · rw [h] at q; cases q
      · exact absurd q i
  · rcases g.new L q with q | q
    · exact i q
    · rw [h] at q; cases q
/-- where the making stands -/
structure NdMk (K : PySem.W.Frag) (Z0 : Hp) (ι0 : List Addr) (H1 : Hp) (L : Addr) (run : List D → List (D × D) → Sto → RO (List (D × D))) (all : List D) (tot : List (D × D)) (stE : Sto) (i : Nat) (H : Hp) : Prop where
  at_ : ∃ st Z ι acc ys, Grow Z0 ι0 H1 Z ι H ∧ Rel K st H Z ι ∧ Z L = none ∧ L ∉ ι ∧ H L = some (dnO Wd.w L acc) ∧ RpN K Z ι acc ys ∧ ys.length ≤ i ∧ run (all.drop i) ys st = some (.ok tot stE)
theorem nd_post {X : Cx} {tg : TG} {g : MG} {c : MT} {mk mv : ME} {J : It} {Z0 : Hp} {ι0 : List Addr} {all : List D} {G : Sto → Prop} {vs : List Nat} {σ : L2.St} {ρ : Env} {st0 : Sto} {H1 : Hp} {tot : List (D × D)} {stE : Sto} {R : Hp → Prop} {L : Addr} (hw : X.w = Wd.w) (walk : WalkM X.K Z0 ι0 J (all, G)) (hlen : all.length ≤ 16777216) (hg : GOk X.K tg g vs) (e0 : EnvR X.K Z0 ι0 ρ σ) (r0 : Rel X.K st0 H1 Z0 ι0) (hL : H1 L = none)
    (hx : ndL G g c mk mv (wipeE ρ vs) all [] st0 = some (.ok tot stE)) (hR : ∀ H Z ι xs, Grow Z0 ι0 H1 Z ι H → Rel X.K stE H Z ι → Z L = none → L ∉ ι → H L = some (dnO Wd.w L xs) → RpN X.K Z ι xs tot → R H) :
    ∃ M : Nat → Nat → Hp → Prop, (∃ m, M 0 m (upd H1 L (dnO X.w L []))) ∧ ∀ i m H, M i m H →
      (J.stop i H ∧ R H) ∨ (J.go i H ∧ ∃ Nx : Hp → Prop, (∀ H', Nx H' → ∃ m', m' < m ∧ M (i + 1) m' H') ∧ ∀ x H', J.yld i H x H' → PassN X tg (rdT X.K W0 c) (rd X.K W0 mk) (rd X.K W0 mv) vs σ L Nx x H') := by
  obtain ⟨hLz, hLi⟩ := r0.fresh hL
  rw [hw]
  refine ⟨fun i m H => m = all.length - i ∧ i ≤ all.length ∧ NdMk X.K Z0 ι0 H1 L (ndL G g c mk mv (wipeE ρ vs)) all tot stE i H, ⟨all.length, rfl, Nat.zero_le _, ?_⟩, ?_⟩
  · obtain ⟨r1, g1⟩ := r0.junk (o := dnO Wd.w L []) hL
    exact ⟨st0, Z0, ι0, [], [], g1, r1, hLz, hLi, upd_same, .nil, Nat.le_refl _, hx⟩
  intro i m H ⟨hm, hi, st, Z, ι, acc, ys, gr, r, zL, iL, hH, hr, hac, hx⟩
  subst hm
  by_cases hlt : i < all.length
  · have hd : all[i]? = some all[i] := List.getElem?_eq_getElem hlt
    rw [List.drop_eq_getElem_cons hlt] at hx
    have ⟨hG, hx⟩ := still_inv hx
    obtain ⟨go, yl⟩ := (walk i st H Z ι gr.toExt r hG).1 _ hd
    refine .inr ⟨go, fun H' => i + 1 ≤ all.length ∧ NdMk X.K Z0 ι0 H1 L (ndL G g c mk mv (wipeE ρ vs)) all tot stE (i + 1) H', fun H' h => ⟨all.length - (i + 1), by omega, rfl, h⟩, fun x H' y => ?_⟩
    obtain ⟨Z2, g2, r2, rx⟩ := yl x H' y
    obtain ⟨ρ1, st1, h1, hx⟩ := bnd_to hx
    obtain ⟨b0, st2, h2, hx⟩ := bnd_to hx
    unfold PassN
    refine hg all[i] (wipeE ρ vs) ρ1 st st1 x (L2.wipe σ vs) H' Z2 ι _ (noX_inv h1) r2 rx (((e0.mono gr.toExt).mono g2.toExt).wipe vs) fun σ2 hst e3 wq => ?_
    subst hst
    refine ⟨by rw [wq, wipe_wipe vs vs fun v hv => hv], ρ1, st1, Z2, ι, e3, r2, ?_⟩
    obtain ⟨zL2, iL2, kL2⟩ := off g2 zL iL hH
    refine Post.ok0 (noX_inv h2) fun b H3 Z3 ι3 g3 r3 hb => ?_
    obtain rfl : b0 = b := (show b = b0 from hb).symm
    obtain ⟨zL3, iL3, kL3⟩ := off g3 zL2 iL2 kL2
    have gA := (gr.trans g2).trans g3
    cases b0 with
    | false => exact iteF ⟨hlt, st2, Z3, ι3, acc, ys, gA, r3, zL3, iL3, kL3, hr.mono (g2.toExt.trans g3.toExt), Nat.le_succ_of_le hac, by simpa using hx⟩
    | true =>
      have hx := (if_pos rfl).symm.trans hx
      obtain ⟨y', st3, h3, hx⟩ := bnd_to hx
      refine iteT ⟨ρ1, st2, Z3, ι3, e3.mono g3.toExt, r3, Post.ok0 (noX_inv h3) fun v H4 Z4 ι4 g4 r4 hv => ?_⟩
      obtain ⟨zL4, iL4, kL4⟩ := off g4 zL3 iL3 kL3
      obtain ⟨z', st4, h4, hx⟩ := bnd_to hx
      refine ⟨ρ1, st3, Z4, ι4, (e3.mono g3.toExt).mono g4.toExt, r4, Post.ok0 (noX_inv h4) fun u H5 Z5 ι5 g5 r5 hu => ?_⟩
      obtain ⟨zL5, iL5, kL5⟩ := off g5 zL4 iL4 kL4
      cases hk : nk? y' with
      | none => rw [hk] at hx; cases hx
      | some ky =>
        rw [hk] at hx
        have hr5 := hr.mono (((g2.toExt.trans g3.toExt).trans g4.toExt).trans g5.toExt)
        have gB := (gA.trans g4).trans g5
        have hv5 := hv.mono g5.toExt
        refine ⟨_, ⟨acc, ky, by rw [hw]; exact kL5, hr5.keys r5.zin, nko r5.zin hv5 hk, by rw [hr5.len, sizeLine_eq]; omega, rfl⟩, hlt, st4, Z5, ι5, putV acc ky v u, putNd ys ky y' z', ?_, r5.other zL5 iL5, zL5, iL5, by rw [hw]; exact upd_same, hr5.put hk hv5 hu, ?_, hx⟩
        · exact ⟨gB.toExt, gB.kp.up fun b o hb hn e => by rw [upd_ne (fun z => hn (by rw [z]; exact hL))]; exact e, gB.new, gB.zn⟩
        · exact Nat.le_trans (putNd_len _ _ _ _) (Nat.succ_le_succ hac)
  · have he : i = all.length := by omega
    subst he
    rw [List.drop_length] at hx
    have ⟨hG, hx⟩ := still_inv hx
    cases hx
    exact .inl ⟨(walk _ _ H Z ι gr.toExt r hG).2 rfl, hR H Z ι acc gr r zL iL hH hr⟩
theorem Rel.adoptN {K : PySem.W.Frag} {st : Sto} {H Z : Hp} {ι : List Addr} (r : Rel K st H Z ι) {p : Addr} {xs : List NV} {ds : List (D × D)} (hH : H p = some (dnO Wd.w p xs)) (hz : Z p = none) (hi : p ∉ ι) (h : RpN K Z ι xs ds) : Rel K (st ++ [.dn ds]) H Z (ι ++ [p]) ∧ Ext Z ι Z (ι ++ [p]) := by
  have g : Ext Z ι Z (ι ++ [p]) := ⟨fun _ _ h _ => h, [p], rfl⟩
  have nd : (ι ++ [p]).Nodup := List.nodup_append.mpr ⟨r.nd, List.nodup_cons.mpr ⟨List.not_mem_nil, List.nodup_nil⟩, fun a ha b hb e => hi (by rw [← List.mem_singleton.mp hb, ← e]; exact ha)⟩
  refine ⟨⟨r.zin, r.tb, by rw [List.length_append, List.length_append, r.len]; rfl, nd, fun n u a h1 h2 => ?_⟩, g⟩
  rcases Nat.lt_or_ge n st.length with hn | hn
  · rw [List.getElem?_append_left hn] at h1
    rw [List.getElem?_append_left (by rw [r.len]; exact hn)] at h2
    exact (r.ob n u a h1 h2).keep g id fun w q => q
  · have hn' : n - st.length = 0 := by
      have := (List.getElem?_eq_some_iff.mp h1).1
      rw [List.length_append, List.length_singleton] at this
      omega
    rw [List.getElem?_append_right hn, hn'] at h1
    rw [List.getElem?_append_right (by rw [r.len]; exact hn), r.len, hn'] at h2
    cases h1
    cases h2
    exact ⟨hz, xs, hH, h.mono g⟩
section
variable {X : Cx} {W : WX} {kx vx tg iter : Expr} {ifs : List Expr} {scope : Scope} {own : List (Str × Nat)} {pos : Pos} {mi : MI} {g : MG} {gt : TG} {c : MT} {mk mv : ME}
theorem ndc_read {σ : L2.St} {H : Hp} {Q : VK} {vs : List Nat} (hw : X.w = Wd.w) (hg : GOk X.K gt g vs) (h : rd X.K W (mNDc mi vs g c mk mv) σ H Q) : tDcN X (rdI X.K W mi) gt (rdT X.K W0 c) (rd X.K W0 mk) (rd X.K W0 mv) vs σ H Q := by
  obtain ⟨ρ, st, Z, ι, e, r, p⟩ := h
  unfold mNDc at p
  have p' : Post X.K W σ Z ι H (Rp X.K) Q (bnd (mi ρ st) fun src s => bnd (if src.1.length ≤ 16777216 then ndL src.2 g c mk mv (wipeE ρ vs) src.1 [] s else none) fun ys s => some (.ok (.ref s.length) (s ++ [.dn ys]))) := by
    cases hx : mi ρ st with
    | none => rw [hx] at p; exact p
    | some q => rw [hx] at p; cases q <;> exact p
  refine rdG.mono (kont e r p') fun J H1 ⟨st1, Z1, ι1, ⟨ds, G⟩, g1, e1, r1, walk, p1⟩ L hL => ?_
  by_cases hlen : ds.length ≤ 16777216
  · rw [if_pos hlen] at p1
    cases hx : ndL G g c mk mv (wipeE ρ vs) ds [] st1 with
    | none => rw [hx] at p1; exact p1.elim
    | some q => cases q with
      | ex x s => exact absurd hx (ndL_noex _ _ _)
      | ok tot stE =>
        rw [hx] at p1
        refine nd_post hw walk hlen hg e1 r1 hL hx fun H' Z' ι' xs gr r' zL iL hH hr => ?_
        obtain ⟨r2, g2⟩ := r'.adoptN hH zL iL hr
        refine p1 (.ref L) H' _ (ι' ++ [L]) ⟨gr.toExt.trans g2, gr.kp, fun b hb => ?_, gr.zn⟩ r2 (.ref (by rw [← r'.len]; simp))
        rcases List.mem_append.mp hb with q | q
        · exact gr.new b q
        · rw [List.mem_singleton.mp q]; exact .inr hL
  · rw [if_neg hlen] at p1; exact p1.elim
theorem sd_ndc (hw : X.w = Wd.w) (hu : X.A.units + 8 < cLine) (hN : X.N.Nodup) (hi : SdI X W tg iter mi) (ok : BlkOk X.N X.env.scope scope own)
    (hg : ∀ (s : Shared) (H : Hp) (C : Addr) (cl : List (Str × Addr)) (ft : List Addr), PG (X.blk s H scope (compEnvC scope cl C X.env) ft) tg gt) (hgo : GOk X.K gt g (own.map (·.2)))
    (ht : ∀ (s : Shared) (H : Hp) (C : Addr) (cl : List (Str × Addr)) (ft : List Addr), PTs (X.blk s H scope (compEnvC scope cl C X.env) ft) ifs (rdT X.K W0 c))
    (hk : ∀ (s : Shared) (H : Hp) (C : Addr) (cl : List (Str × Addr)) (ft : List Addr), Sd (X.blk s H scope (compEnvC scope cl C X.env) ft) W0 kx mk)
    (hv : ∀ (s : Shared) (H : Hp) (C : Addr) (cl : List (Str × Addr)) (ft : List Addr), Sd (X.blk s H scope (compEnvC scope cl C X.env) ft) W0 vx mv) (hc : X.calm = true := by rfl) (hs : ∀ x, foldedSetIterable iter X.env x = pure x := by intro _; rfl) :
    Sd X W (.DictComp kx vx [⟨tg, iter, ifs, 0⟩] scope pos) (mNDc mi (own.map (·.2)) g c mk mv) := pe_imp (pe_dcN hu hc hN hi ok hg ht hk hv hs) fun _ _ _ h => ndc_read hw hgo h
end
end MP


set_option Elab.async false
set_option linter.all false
set_option maxRecDepth 100000
set_option maxHeartbeats 4000000
/-! MPQ: is a key in a dict, as a test -/
namespace MP
variable [Wd]
open PySem PySem.Spec PyProof.Rows L2
section
variable {X : Cx} {W : WX} {i o : Expr} {mi mo : ME} {pos : Pos}
end
end MP


set_option Elab.async false
set_option linter.all false
set_option maxRecDepth 100000
set_option maxHeartbeats 4000000
/-! MPU: sorted of plain data of any shape -/
namespace MP
variable [Wd]
open PySem PySem.Spec PyProof.Rows L2
open PySem.W (AllAlike Sortable dataLe EachIs)
def rSortP (K : PySem.W.Frag) : List V → Hp → VK → Prop := fun xs H Q => ∃ (a : Addr) (bs : List (V × PyData)), xs = [V.ref a] ∧ SqL K H a (bs.map (·.1)) ∧ (∀ b ∈ bs, Dp K H b.1 b.2) ∧ AllAlike (bs.map (·.2)) ∧ Sortable (bs.map (·.2)) ∧ (∀ b ∈ bs, b.2.depth ≤ 50) ∧
  ∀ p, H p = none → Q (.ref p) (upd H p (.lst ((bs.mergeSort (dataLe false (·.2))).map (·.1))))
theorem vals_each : ∀ {xs : List (V × PyData)} {us : List Value}, Vals (xs.map (·.1)) us → EachIs (fun v (b : V × PyData) => RelV b.1 v) us xs
  | [], _, r => by cases r; exact .nil
  | b :: bs, _, r => by
    cases r with
    | cons h t => exact .cons h (vals_each t)
theorem each_vals : ∀ {xs : List (V × PyData)} {us : List Value}, EachIs (fun v (b : V × PyData) => RelV b.1 v) us xs → Vals (xs.map (·.1)) us
  | _, _, .nil => .nil
  | _, _, .cons h t => .cons h (each_vals t)
theorem each_dp {X : Cx} {pins : List (Addr × Obj)} {σ : L2.St} {H : Hp} {s : Shared} (I : Inv X pins σ H s) : ∀ {xs : List (V × PyData)} {us : List Value}, (∀ b ∈ xs, Dp X.K H b.1 b.2) → EachIs (fun v (b : V × PyData) => RelV b.1 v) us xs → EachIs (fun v (b : V × PyData) => ∃ as, PySem.Reads s.heap v b.2 as) us xs
  | _, _, _, .nil => .nil
  | _, _, h, .cons r t => .cons (Dp.reads I _ _ _ (h _ List.mem_cons_self) r) (each_dp I (fun b hb => h b (List.mem_cons_of_mem _ hb)) t)
theorem cr_sortP {X : Cx} (hu : X.A.units + 61 < cLine) : CallR X (.builtin "sorted") (rSortP X.K) := by
  intro pins s σ H vs us Q I r h
  obtain ⟨a, bs, rfl, hs, hd, hal, hk, hdp, q⟩ := h
  obtain ⟨its, rv, hl, hz⟩ := I.list hs
  obtain ⟨u, rfl, ru⟩ := vals1 r
  obtain rfl : u = Value.ref a := ru
  have e0 := vals_each rv
  have hlen : bs.length ≤ sizeLine := by
    rw [List.length_map] at hz
    exact hz
  refine PySem.W.sorted_data (R := fun v (b : V × PyData) => RelV b.1 v) (enc := fun b : V × PyData => b.2) hl.isList e0 (each_dp I hd e0) hal hk hlen (fun b hb => by have := hdp b hb; omega) fun out ho eo => ?_
  have hv := each_vals eo
  refine ⟨.ref (s.heap.objs.size + 1), upd H (s.heap.objs.size + 1) (.lst ((bs.mergeSort (dataLe false (·.2))).map (·.1))), I.laid (t' := s.toks) (fun b o e => sortedAll_old e) (Nat.le_succ _) ⟨?_, out, ?_⟩, rfl, q _ (I.hok.fresh (Nat.le_succ _))⟩
  · rw [List.length_map, List.length_mergeSort]
    exact hlen
  · obtain ⟨n, hn⟩ := sortedAll_at s.heap its (List.toArray out)
    exact ⟨n, hv, by simpa using hn⟩
/-! ### as a reading -/
def alikeB (ps : List PyData) : Bool := ps.all fun p => ps.all fun q => PySem.W.alike p q
def sortB (ps : List PyData) : Bool := (ps.all fun p => match p with | .tuple (_ :: _) => true | _ => false) || ps.all fun p => match p with | .int _ => true | .str _ => true | _ => false
theorem alikeB_of {ps : List PyData} (h : alikeB ps = true) : AllAlike ps := fun d hd e he => List.all_eq_true.mp (List.all_eq_true.mp h d hd) e he
theorem sortB_of {ps : List PyData} (h : sortB ps = true) : Sortable ps := by
  unfold sortB at h
  rw [Bool.or_eq_true] at h
  rcases h with h | h
  · refine .inl fun d hd => ?_
    have := List.all_eq_true.mp h d hd
    cases d with
    | tuple l => cases l with
      | nil => cases this
      | cons x r => exact ⟨x, r, rfl⟩
    | _ => cases this
  · refine .inr fun d hd => ?_
    have := List.all_eq_true.mp h d hd
    cases d with
    | int i => exact ⟨by simp, by simp⟩
    | str i => exact ⟨by simp, by simp⟩
    | _ => cases this
/-- the data of a value that stands by itself -/
def pyV (d : D) : PyData := d.py.getD .none
/-- in order -/
noncomputable def srtD (ds : List D) : List D := ds.mergeSort (dataLe false pyV)
noncomputable def gSortP (s : Sto) : List D → Option D
  | [x] => match lst? s x with
    | some ds => match pyL ds with
      | some ps => if (alikeB ps && (sortB ps && (ps.all fun p => decide (p.depth ≤ 50)))) = true then some (.lst (srtD ds)) else none
      | none => none
    | none => none
  | _ => none
theorem pyL_inv : ∀ {ds : List D} {ps : List PyData}, pyL ds = some ps → ps = ds.map pyV ∧ ∀ d ∈ ds, d.py = some (pyV d)
  | [], _, h => by unfold pyL at h; cases h; exact ⟨rfl, fun _ h => nomatch h⟩
  | d :: ds, ps, h => by
    obtain ⟨p, qs, h1, h2, rfl⟩ := pyL_cons h
    obtain ⟨e, k⟩ := pyL_inv h2
    have e1 : pyV d = p := by unfold pyV; rw [h1]; rfl
    refine ⟨by rw [List.map_cons, e1, e], fun x hx => ?_⟩
    rcases List.mem_cons.mp hx with rfl | hx
    · rw [e1]; exact h1
    · exact k x hx
theorem rpl_zip {K : PySem.W.Frag} {Z : Hp} {ι : List Addr} : ∀ {vs : List V} {ds : List D}, RpL K Z ι vs ds → ∀ c ∈ vs.zip ds, Rp K Z ι c.1 c.2
  | _, _, .nil, _, h => nomatch h
  | _, _, .cons h r, c, hc => by
    rw [List.zip_cons_cons] at hc
    rcases List.mem_cons.mp hc with rfl | hc
    · exact h
    · exact rpl_zip r c hc
theorem rpl_of_zip {K : PySem.W.Frag} {Z : Hp} {ι : List Addr} : ∀ {cs : List (V × D)}, (∀ c ∈ cs, Rp K Z ι c.1 c.2) → RpL K Z ι (cs.map (·.1)) (cs.map (·.2))
  | [], _ => .nil
  | c :: cs, h => .cons (h c List.mem_cons_self) (rpl_of_zip fun x hx => h x (List.mem_cons_of_mem _ hx))
theorem cs_sortP {K : PySem.W.Frag} : CallS K (pu gSortP) (rSortP K) := fun st st' ds d vs H Z ι Q hf r hv k => by
  obtain ⟨hf, rfl⟩ := pu_inv hf
  cases hv with
  | nil => cases hf
  | @cons v _ x _ h q => cases q with
    | cons _ _ => cases hf
    | nil =>
      unfold gSortP at hf
      dsimp only at hf
      cases h1 : lst? st' x with
      | none => rw [h1] at hf; cases hf
      | some l =>
        rw [h1] at hf
        dsimp only at hf
        cases h2 : pyL l with
        | none => rw [h2] at hf; cases hf
        | some ps =>
          rw [h2] at hf
          dsimp only at hf
          split at hf
          · rename_i hc
            cases hf
            simp only [Bool.and_eq_true] at hc
            obtain ⟨c1, c2, c3⟩ := hc
            obtain ⟨rfl, hpy⟩ := pyL_inv h2
            obtain ⟨a, xs, ea, hs, hr⟩ := lst_sq r h h1
            subst ea
            have hl : xs.length = l.length := hr.length
            have hz := rpl_zip hr
            have e1 : (xs.zip l).map (·.1) = xs := List.map_fst_zip (by omega)
            have e2 : (xs.zip l).map (·.2) = l := List.map_snd_zip (by omega)
            have e3 : ((xs.zip l).map fun c : V × D => (c.1, pyV c.2)).map (·.1) = xs := by rw [List.map_map]; exact e1
            have e4 : ((xs.zip l).map fun c : V × D => (c.1, pyV c.2)).map (·.2) = l.map pyV := by rw [List.map_map, show ((fun x : V × PyData => x.2) ∘ fun c : V × D => (c.1, pyV c.2)) = pyV ∘ fun c => c.2 from rfl, ← List.map_map, e2]
            have hm : ∀ c ∈ xs.zip l, c.2 ∈ l := fun c hc => by rw [← e2]; exact List.mem_map_of_mem hc
            refine ⟨a, (xs.zip l).map fun c => (c.1, pyV c.2), rfl, by rw [e3]; exact SqL.of hs, fun b hb => ?_, by rw [e4]; exact alikeB_of c1, by rw [e4]; exact sortB_of c2, fun b hb => ?_, fun p hp => ?_⟩
            · obtain ⟨c, hc, rfl⟩ := List.mem_map.mp hb
              exact dp_of r.zin (hz c hc) (hpy _ (hm c hc))
            · obtain ⟨c, hc, rfl⟩ := List.mem_map.mp hb
              exact of_decide_eq_true (List.all_eq_true.mp c3 _ (List.mem_map_of_mem (hm c hc)))
            · have f1 : (((xs.zip l).map fun c : V × D => (c.1, pyV c.2)).mergeSort (dataLe false (·.2))) = ((xs.zip l).mergeSort (dataLe false fun c => pyV c.2)).map fun c => (c.1, pyV c.2) := by
                rw [List.map_mergeSort]
                intro a _ b _
                rfl
              have f2 : ((xs.zip l).mergeSort (dataLe false fun c => pyV c.2)).map (·.2) = srtD l := by
                unfold srtD
                rw [List.map_mergeSort (s := dataLe false pyV), e2]
                intro a _ b _
                rfl
              rw [f1, List.map_map]
              obtain ⟨r2, g2⟩ := r.zone (o := .lst (((xs.zip l).mergeSort (dataLe false fun c => pyV c.2)).map fun c => c.1)) hp
              refine k _ _ _ _ g2 r2 (.lst upd_same ?_)
              rw [← f2]
              exact (rpl_of_zip fun c hc => hz c (List.mem_mergeSort.mp hc)).mono g2.toExt
          · cases hf
end MP


set_option Elab.async false
set_option linter.all false
set_option maxRecDepth 100000
set_option maxHeartbeats 4000000
/-! MPUB: sorted of plain data, the result a box -/
namespace MP
variable [Wd]
open PySem PySem.Spec PyProof.Rows L2
open PySem.W (AllAlike Sortable dataLe EachIs)
end MP


set_option Elab.async false
set_option linter.all false
set_option maxRecDepth 100000
set_option maxHeartbeats 4000000
/-! MPV: dicts that are let go, comprehensions of two clauses -/
namespace MP
variable [Wd]
open PySem PySem.Spec PyProof.Rows L2
/-! ### a dict that nobody changes from here on -/
/-! ### [elt for tg in iter if .. for tg1 in iter1 if ..] -/
theorem stands {L : Addr} {acc : List V} {Za Zb Ha Hb : Hp} {ιa ιb : List Addr} (g : Grow Za ιa Ha Zb ιb Hb) (z : Za L = none) (i : L ∉ ιa) (h : Ha L = some (.lst acc)) : Zb L = none ∧ L ∉ ιb ∧ Hb L = some (.lst acc) := by
  refine ⟨?_, fun q => ?_, g.keep L _ i h⟩
  · cases e : Zb L with
    | none => rfl
    | some o => rcases g.zn L o e with q | q | q
                · rw [z] at q; cases q
                · rw [h] at q; cases q
                · exact absurd q i
  · rcases g.new L q with q | q
    · exact i q
    · rw [h] at q; cases q
section
variable {X : Cx} {W : WX} {elt tg iter tg1 iter1 : Expr} {ifs ifs1 : List Expr} {scope : Scope} {own : List (Str × Nat)} {pos : Pos} {mi mi1 : MI} {g g1 : MG} {gt gt1 : TG} {c c1 : MT} {me : ME} {vs1 : List Nat}
end
end MP


set_option Elab.async false
set_option linter.all false
set_option maxRecDepth 100000
set_option maxHeartbeats 4000000
/-! MPY: dict(xs) of a list of pairs -/
namespace MP
variable [Wd]
open PySem PySem.Spec PyProof.Rows L2
section
variable {K : PySem.W.Frag} {Z H : Hp} {ι : List Addr} {st : Sto}
end
end MP




set_option Elab.async false
set_option linter.all false
set_option maxRecDepth 100000
set_option maxHeartbeats 4000000
/-! MPIN: x in xs, any plain data in a list -/
namespace MP
variable [Wd]
open PySem PySem.Spec PyProof.Rows L2
theorem _root_.L2.Room.units65 {k : Nat} {A : Around} (r : Room k A) : A.units + 65 < cLine := by have := r.un; omega
def inD? (s : Sto) (x y : D) : Option Bool := match pyF 60 s x, pyF 60 s y with
  | some d, some (.list ds) => if (SeqAt.shaped d && SeqAt.shaped (.list ds)) = true then some (ds.any fun z => PyData.eqv z d) else none
  | _, _ => none
def fInD (s : Sto) (x y : D) : Option D := (inD? s x y).map .bl
def fNotInD (s : Sto) (x y : D) : Option D := (inD? s x y).map fun b => .bl !b
theorem inD_inv {K : PySem.W.Frag} {st : Sto} {H Z : Hp} {ι : List Addr} {x y : D} {v u : V} {b : Bool} (r : Rel K st H Z ι) (hx : Rp K Z ι v x) (hy : Rp K Z ι u y) (h : inD? st x y = some b) : ∃ d ds, Dp K H v d ∧ Dp K H u (.list ds) ∧ SeqAt.shaped d = true ∧ SeqAt.shaped (.list ds) = true ∧ b = ds.any fun z => PyData.eqv z d := by
  unfold inD? at h
  cases h1 : pyF 60 st x with
  | none => rw [h1] at h; cases h
  | some d =>
    rw [h1] at h
    cases h2 : pyF 60 st y with
    | none => rw [h2] at h; cases h
    | some e =>
      rw [h2] at h
      cases e with
      | list ds =>
        dsimp only at h
        split at h
        · rename_i hc
          cases h
          rw [Bool.and_eq_true] at hc
          exact ⟨d, ds, (dpF_of r 60 hx h1).1, (dpF_of r 60 hy h2).1, hc.1, hc.2, rfl⟩
        · cases h
      | _ => cases h
theorem os_inD {K : PySem.W.Frag} : OpS K fInD (rInD K) := fun st x y d v u H Z ι Q hf r hx hy k => by
  unfold fInD at hf
  cases h : inD? st x y with
  | none => rw [h] at hf; cases hf
  | some b =>
    rw [h] at hf
    cases hf
    obtain ⟨d, ds, h1, h2, h3, h4, rfl⟩ := inD_inv r hx hy h
    exact ⟨d, ds, h1, h2, h3, h4, k _ H Z (Grow.refl _ _ _) r (.bl _)⟩
theorem os_notInD {K : PySem.W.Frag} : OpS K fNotInD (rNotInD K) := fun st x y d v u H Z ι Q hf r hx hy k => by
  unfold fNotInD at hf
  cases h : inD? st x y with
  | none => rw [h] at hf; cases hf
  | some b =>
    rw [h] at hf
    cases hf
    obtain ⟨d, ds, h1, h2, h3, h4, rfl⟩ := inD_inv r hx hy h
    exact ⟨d, ds, h1, h2, h3, h4, k _ H Z (Grow.refl _ _ _) r (.bl _)⟩
end MP


set_option Elab.async false
set_option linter.all false
set_option maxRecDepth 100000
set_option maxHeartbeats 4000000
/-! MPRM: xs.remove(x) of plain data; sorted(d) of dicts with nested keys -/
namespace MP
variable [Wd]
open PySem PySem.Spec PyProof.Rows L2
open PySem.W (AllAlike Sortable dataLe EachIs)
/-! ### xs.remove(x) -/
/-! ### sorted(d) -/
def rSortN (X : Cx) : List V → Hp → VK → Prop := fun xs H Q => ∃ (a : Addr) (ks : List NV) (bs : List (V × PyData)), xs = [V.ref a] ∧ Rd H a (dnO X.w a ks) ∧ ks.map (·.2.1) = bs.map (·.1) ∧ (∀ b ∈ bs, Dp X.K H b.1 b.2) ∧ AllAlike (bs.map (·.2)) ∧ Sortable (bs.map (·.2)) ∧ (∀ b ∈ bs, b.2.depth ≤ 50) ∧
  ∀ p, H p = none → Q (.ref p) (upd H p (.lst ((bs.mergeSort (dataLe false (·.2))).map (·.1))))
/-- sorted of anything that is collected, then put in order -/
theorem sorted_by {P : Program} {w : World} {A : Around} {E Q : Value → Shared → Prop} {s : Shared} {T : String} {r d : Addr} {n : Nat} {G : Nat → Value → Prop} {OK : Heap → Prop} (K : PySem.W.KdlSrc P w T r d n G OK) (hh : A.handled = none) (hok : OK s.heap) (hn : n ≤ sizeLine)
    (next : ∀ (h' : Heap) (tk : Nat) (vs : List Value), (∀ b o, s.heap.get? b = some o → h'.get? b = some o) → vs.length = n → (∀ j v, vs[j]? = some v → G j v) → wpAny (model P w) A.in1 (call (.builtin "list.sort") [.ref h'.objs.size]) (fun _ s' => Q (.ref h'.objs.size) s') E { s with heap := h'.push (seqObj "list" vs.toArray 0), toks := tk }) :
    wpAny (model P w) A (call (.builtin "sorted") [.ref r]) Q E s :=
  Calls.call_function_entry kind_sorted plain_sorted entry_sorted (args_sorted1 _) (by
    unfold Builtin.«sorted»
    apply wpAny_bind (m := checkCount "sorted" 1 1 _)
    apply wpAny_pure
    apply wpAny_bind
    apply PySem.W.kdu_collect (A := A.in1) K hh hok hn
    intro h' tk acc kept got
    have hl : acc.toList.length = n := by rw [Array.length_toList]; exact got.1
    apply wpAny_bind
    apply wpAny_newList
    · apply wpAny_bind
      apply wpAny_holding
      refine wpAny_mono (next h' tk acc.toList kept hl fun j v e => got.2 j v (by rw [← Array.getElem?_toList]; exact e)) (fun _ s' x => ?_) fun _ _ e => e
      exact wpAny_pure ⟨_, rfl, x⟩
    · rw [hl]; exact hn)
mutual
theorem reads_there {h : Heap} : ∀ {v : Value} {d : PyData} {as : List Addr}, Reads h v d as → ∀ b ∈ as, b < h.objs.size
  | _, _, _, .none, _, z => nomatch z
  | _, _, _, .bool _, _, z => nomatch z
  | _, _, _, .int _ _, _, z => nomatch z
  | _, _, _, .str _ _, _, z => nomatch z
  | _, _, _, .list h1 _ _ h4, b, z => by
    rcases List.mem_cons.mp z with e | z
    · rw [e]; exact Heap.lt_size h1
    · exact readsAll_there h4 b z
  | _, _, _, .tuple _ _ _ h4, b, z => readsAll_there h4 b z
  | _, _, _, .dict h1 _ _ h4 h5, b, z => by
    rcases List.mem_append.mp z with z | z
    · rcases List.mem_cons.mp z with e | z
      · rw [e]; exact Heap.lt_size h1
      · exact readsAll_there h4 b z
    · exact readsAll_there h5 b z
theorem readsAll_there {h : Heap} : ∀ {vs : List Value} {ds : List PyData} {as : List Addr}, ReadsAll h vs ds as → ∀ b ∈ as, b < h.objs.size
  | _, _, _, .nil, _, z => nomatch z
  | _, _, _, .cons h1 h2, b, z => (List.mem_append.mp z).elim (reads_there h1 b) (readsAll_there h2 b)
end
theorem call_sortN {X : Cx} (hc : X.calm = true) (hu : X.A.units + 61 < cLine) : CallR X (.builtin "sorted") (rSortN X) := by
  intro pins s σ H xs us Q I r h
  obtain ⟨a, ks, bs, rfl, hd, hkb, hdp, hal, hk, hdd, q⟩ := h
  obtain ⟨u, rfl, rx⟩ := r.one
  cases rx
  obtain ⟨z, hs, ys, rel, o, es, ep, ho, hx, hdt, he, hn⟩ := dn_rd I hd
  obtain ⟨hsz, ent⟩ := ents_n he rel
  have kl : bs.length = ks.length := by rw [← List.length_map (f := (·.1)), ← hkb, List.length_map]
  refine sorted_by (kdl_raw hs hx hdt) (I.ok.hd hc) ho (by omega) fun h' tk vs kept hl got => ?_
  have rv : Vals (bs.map (·.1)) vs := by
    rw [← hkb]
    refine vals_at (by rw [List.length_map, hl, hsz]) fun i x hi => ?_
    rw [List.getElem?_map] at hi
    obtain ⟨p, hp, rfl⟩ := Option.map_eq_some_iff.mp hi
    obtain ⟨en, hen, rk⟩ := ent i p hp
    have hlt : i < vs.length := by rw [hl, hsz]; exact (List.getElem?_eq_some_iff.mp hp).1
    obtain ⟨en2, hen2, hv⟩ := got i vs[i] (List.getElem?_eq_getElem hlt)
    rw [hen] at hen2
    cases hen2
    exact ⟨vs[i], List.getElem?_eq_getElem hlt, by rw [hv]; exact rk⟩
  have J : Inv X pins σ H { s with heap := h', toks := tk } := I.kept kept
  have e0 := vals_each rv
  have er : EachIs (fun v (b : V × PyData) => ∃ as, Reads h' v b.2 as) vs bs := each_dp J hdp e0
  have er2 : EachIs (fun v (b : V × PyData) => ∃ as, Reads (h'.push (seqObj "list" vs.toArray 0)) v b.2 as ∧ h'.objs.size ∉ as) vs bs := er.mono fun _ _ ⟨as, r⟩ => ⟨as, Reads.keeps (fun _ _ k => Heap.get?_push_of_some _ k) r, fun z => Nat.lt_irrefl _ (reads_there r _ z)⟩
  have hL : bs.length ≤ sizeLine := by rw [kl]; exact z
  have hoL : (h'.push (seqObj "list" vs.toArray 0)).get? h'.objs.size = some (seqObj "list" vs.toArray 0) := Heap.get?_push_size _ rfl
  refine PySem.W.list_sort_data (R := fun v (b : V × PyData) => RelV b.1 v) (enc := fun b : V × PyData => b.2) (s := { s with heap := h'.push (seqObj "list" vs.toArray 0), toks := tk }) hoL e0 er2 hal hk hL (fun b hb => by have := hdd b hb; show X.A.units + 1 + 1 + _ < _; omega) fun out ho2 eo => ?_
  obtain ⟨n2, hn2⟩ := sortedHeap_at (vs := vs) (out := out.toArray) hoL
  refine ⟨.ref h'.objs.size, upd H h'.objs.size (.lst ((bs.mergeSort (dataLe false (·.2))).map (·.1))), J.laid (t' := tk) (fun b u k => ?_) (Nat.le_refl _) ⟨?_, out, n2, each_vals eo, hn2⟩, rfl, q _ (J.hok.fresh (Nat.le_refl _))⟩
  · have hb : b < h'.objs.size := Heap.lt_size k
    exact (sortedHeap_old (Nat.ne_of_lt hb) (by rw [size_push']; exact Nat.lt_succ_of_lt hb)).trans (Heap.get?_push_of_some _ k)
  · rw [List.length_map, List.length_mergeSort]
    exact hL
/-! as a reading -/
noncomputable def gSortN (s : Sto) : List D → Option D
  | [x] => match nd? s x with
    | some l => match pyL (l.map (·.1)) with
      | some ps => if (alikeB ps && (sortB ps && (ps.all fun p => decide (p.depth ≤ 50)))) = true then some (.lst (srtD (l.map (·.1)))) else none
      | none => none
    | none => none
  | _ => none
noncomputable def gSortNB (s : Sto) (ds : List D) : Option (D × Sto) := match gSortN s ds with
  | some (.lst l) => some (.ref s.length, s ++ [.lst l])
  | _ => none
theorem rpn_keys {K : PySem.W.Frag} {Z : Hp} {ι : List Addr} : ∀ {ks : List NV} {l : List (D × D)}, RpN K Z ι ks l → RpL K Z ι (ks.map (·.2.1)) (l.map (·.1)) := fun {ks l} h => by
  unfold RpN at h
  induction h with
  | nil => exact .nil
  | cons a t ih => exact .cons a.2.2.1 ih
/-- what a call of sorted over such a dict wants, from the reading -/
theorem sortN_pre {X : Cx} {st : Sto} {H Z : Hp} {ι : List Addr} {v : V} {x : D} {l : List (D × D)} {ps : List PyData} (hw : X.w = Wd.w) (r : Rel X.K st H Z ι) (h : Rp X.K Z ι v x) (h1 : nd? st x = some l) (h2 : pyL (l.map (·.1)) = some ps) (hc : (alikeB ps && (sortB ps && (ps.all fun p => decide (p.depth ≤ 50)))) = true) :
    ∃ (a : Addr) (ks : List NV) (bs : List (V × PyData)), v = V.ref a ∧ Rd H a (dnO X.w a ks) ∧ ks.map (·.2.1) = bs.map (·.1) ∧ (∀ b ∈ bs, Dp X.K H b.1 b.2) ∧ AllAlike (bs.map (·.2)) ∧ Sortable (bs.map (·.2)) ∧ (∀ b ∈ bs, b.2.depth ≤ 50) ∧ RpL X.K Z ι ((bs.mergeSort (dataLe false (·.2))).map (·.1)) (srtD (l.map (·.1))) := by
  simp only [Bool.and_eq_true] at hc
  obtain ⟨c1, c2, c3⟩ := hc
  obtain ⟨rfl, hpy⟩ := pyL_inv h2
  obtain ⟨a, ks, rfl, hH, hr0⟩ := nd_at r h h1
  rw [← hw] at hH
  have hr := rpn_keys hr0
  generalize hxs : ks.map (·.2.1) = xs at hr
  generalize hl0 : l.map (·.1) = ls at hr hpy c1 c2 c3
  have hl : xs.length = ls.length := hr.length
  have hz := rpl_zip hr
  have e1 : (xs.zip ls).map (·.1) = xs := List.map_fst_zip (by omega)
  have e2 : (xs.zip ls).map (·.2) = ls := List.map_snd_zip (by omega)
  have e3 : ((xs.zip ls).map fun c : V × D => (c.1, pyV c.2)).map (·.1) = xs := by rw [List.map_map]; exact e1
  have e4 : ((xs.zip ls).map fun c : V × D => (c.1, pyV c.2)).map (·.2) = ls.map pyV := by rw [List.map_map, show ((fun x : V × PyData => x.2) ∘ fun c : V × D => (c.1, pyV c.2)) = pyV ∘ fun c => c.2 from rfl, ← List.map_map, e2]
  have hm : ∀ c ∈ xs.zip ls, c.2 ∈ ls := fun c hc => by rw [← e2]; exact List.mem_map_of_mem hc
  refine ⟨a, ks, (xs.zip ls).map fun c => (c.1, pyV c.2), rfl, hH, by rw [e3, hxs], fun b hb => ?_, by rw [e4]; exact alikeB_of c1, by rw [e4]; exact sortB_of c2, fun b hb => ?_, ?_⟩
  · obtain ⟨c, hc, rfl⟩ := List.mem_map.mp hb
    exact dp_of r.zin (hz c hc) (hpy _ (hm c hc))
  · obtain ⟨c, hc, rfl⟩ := List.mem_map.mp hb
    exact of_decide_eq_true (List.all_eq_true.mp c3 _ (List.mem_map_of_mem (hm c hc)))
  · have f1 : (((xs.zip ls).map fun c : V × D => (c.1, pyV c.2)).mergeSort (dataLe false (·.2))) = ((xs.zip ls).mergeSort (dataLe false fun c => pyV c.2)).map fun c => (c.1, pyV c.2) := by
      rw [List.map_mergeSort]
      intro a _ b _
      rfl
    have f2 : ((xs.zip ls).mergeSort (dataLe false fun c => pyV c.2)).map (·.2) = srtD ls := by
      unfold srtD
      rw [List.map_mergeSort (s := dataLe false pyV), e2]
      intro a _ b _
      rfl
    rw [f1, List.map_map, ← f2]
    exact rpl_of_zip fun c hc => hz c (List.mem_mergeSort.mp hc)
theorem cs_sortN {X : Cx} (hw : X.w = Wd.w) : CallS X.K (pu gSortN) (rSortN X) := fun st st' ds d vs H Z ι Q hf r hv k => by
  obtain ⟨hf, rfl⟩ := pu_inv hf
  cases hv with
  | nil => cases hf
  | @cons v _ x _ h q => cases q with
    | cons _ _ => cases hf
    | nil =>
      unfold gSortN at hf
      dsimp only at hf
      cases h1 : nd? st' x with
      | none => rw [h1] at hf; cases hf
      | some l =>
        rw [h1] at hf
        dsimp only at hf
        cases h2 : pyL (l.map (·.1)) with
        | none => rw [h2] at hf; cases hf
        | some ps =>
          rw [h2] at hf
          dsimp only at hf
          split at hf
          · rename_i hc
            cases hf
            obtain ⟨a, ks, bs, rfl, w1, w2, w3, w4, w5, w6, w7⟩ := sortN_pre hw r h h1 h2 hc
            refine ⟨a, ks, bs, rfl, w1, w2, w3, w4, w5, w6, fun p hp => ?_⟩
            obtain ⟨r2, g2⟩ := r.zone (o := .lst ((bs.mergeSort (dataLe false fun c => c.2)).map fun c => c.1)) hp
            exact k _ _ _ _ g2 r2 (.lst upd_same (w7.mono g2.toExt))
          · cases hf
theorem cs_sortNB {X : Cx} (hw : X.w = Wd.w) : CallS X.K gSortNB (rSortN X) := fun st st' ds d vs H Z ι Q hf r hv k => by
  unfold gSortNB at hf
  cases hv with
  | nil => simp [gSortN] at hf
  | @cons v _ x _ h q => cases q with
    | cons _ _ => simp [gSortN] at hf
    | nil =>
      unfold gSortN at hf
      dsimp only at hf
      cases h1 : nd? st x with
      | none => rw [h1] at hf; cases hf
      | some l =>
        rw [h1] at hf
        dsimp only at hf
        cases h2 : pyL (l.map (·.1)) with
        | none => rw [h2] at hf; cases hf
        | some ps =>
          rw [h2] at hf
          dsimp only at hf
          by_cases hc : (alikeB ps && (sortB ps && (ps.all fun p => decide (p.depth ≤ 50)))) = true
          · rw [if_pos hc] at hf
            cases hf
            obtain ⟨a, ks, bs, rfl, w1, w2, w3, w4, w5, w6, w7⟩ := sortN_pre hw r h h1 h2 hc
            refine ⟨a, ks, bs, rfl, w1, w2, w3, w4, w5, w6, fun p hp => ?_⟩
            obtain ⟨r3, g3, h3⟩ := box_lst r hp w7
            exact k _ _ _ _ g3 r3 h3
          · rw [if_neg hc] at hf
            cases hf
end MP


set_option Elab.async false
set_option linter.all false
set_option maxRecDepth 100000
set_option maxHeartbeats 4000000
/-! MPNT: own == and != as tests -/
namespace MP
variable [Wd]
open PySem PySem.Spec PyProof.Rows L2
section
variable {X : Cx} {W : WX} {a b : Expr} {pos : Pos} {ma mb : ME} {C : Str} {k j : Nat} {g f : Addr} {fd : FuncData} {ps : List Str} {dvs : List V} {fm : FM} {ok : Kd → Bool}
theorem sd_eqOT (hok : EqOk X C ok) (hs : PySem.W.findIn X.K (.ref (He.ga X.K C)) "__eq__" = some (some (.ref g))) (hf : PySem.W.isFn X.K (.ref g) = true) (G : FnG X.prog X.w X.K X.mg X.base k g fd ps (spM X.K ps.length fm)) (hr : Room k X.A) (hG : X.A.guards = some []) (hb : Binds X.K fd ps []) (tk : L2N.Takes X W) (hl : ps.length = 2)
    (ha : Sd X W a ma) (hb' : Sd X W b mb) (hm : behindInMarks .Eq b = false := by first | exact nomark _ | rfl) : SdT X W (.Compare a [.Eq] [b] pos) (mTst (mEqO C ok fm ma mb)) := by
  refine ⟨fun pins s σ H Q I h => ?_⟩
  have h := rdT_tst h
  refine wpAny_isTrue_Compare1 (binT ha hb' I (two_read h) fun v u s2 xv yv H2 I2 rv ru ⟨st2, Z2, ι2, x, y, r2, rx2, ry, p2⟩ => ?_) hm
  refine thn (Q := EP X pins σ fun z H => ∃ k, z = .bl k ∧ Q k H) ?_ fun c s3 ⟨z, H3, I3, r3, k, e, q3⟩ => by
    subst e
    cases r3
    exact wpAny_truthy_bool ⟨H3, I3, q3⟩
  cases hi : ins? st2 C x with
  | none => rw [hi] at p2; exact p2.elim
  | some nf => cases hk : kdD st2 y with
    | none => rw [hi, hk] at p2; exact p2.elim
    | some kd =>
      rw [hi, hk] at p2
      dsimp only at p2
      split at p2
      · rename_i hokk
        obtain ⟨h1, h2⟩ := hok kd hokk fun t e => kd_names (e ▸ hk)
        obtain ⟨n', fs⟩ := nf
        obtain ⟨a', dx, gs, rfl, ex, hst, hn, hz, hH, hr'⟩ := ins_at r2 rx2 hi
        obtain rfl : v = Value.ref a' := rv
        obtain ⟨mA, J, _⟩ := ins_get I2.hok hH
        obtain ⟨od, J, _⟩ := J.look
        obtain ⟨m, hF⟩ := I2.fr
        show wpAny (model X.prog X.w) X.A (richCompare .Eq (.ref a') u) _ X.xe s2
        refine PySem.W.cmp_K (op := .Eq) hr.units0 hF I2.ok.mod.kin J (ty_looks I2 r2 ry hk h2 ru) h1 hs hf ?_
        refine wpAny_mono (own_bool (c := id) G hr hG rfl hb tk hl I2 r2 rx2 ry rfl ru p2) (fun z s3 ⟨b, e, q⟩ => ?_) fun _ _ x => x
        subst e
        exact q
      · exact p2.elim
theorem sd_neOT (hok : EqOk X C ok) (hs1 : PySem.W.findIn X.K (.ref (He.ga X.K C)) "__ne__" = some (some (.builtin "object.__ne__"))) (hob : PySem.W.mroIn X.K (He.ga X.K C) (.type "object") = some true) (hs : PySem.W.findIn X.K (.ref (He.ga X.K C)) "__eq__" = some (some (.ref g))) (hf : PySem.W.isFn X.K (.ref g) = true) (G : FnG X.prog X.w X.K X.mg X.base k g fd ps (spM X.K ps.length fm)) (hr : Room (k + 1) X.A) (hG : X.A.guards = some []) (hb : Binds X.K fd ps []) (tk : L2N.Takes X W) (hl : ps.length = 2)
    (ha : Sd X W a ma) (hb' : Sd X W b mb) (hm : behindInMarks .NotEq b = false := by first | exact nomark _ | rfl) : SdT X W (.Compare a [.NotEq] [b] pos) (mTst (mNeO C ok fm ma mb)) := by
  refine ⟨fun pins s σ H Q I h => ?_⟩
  have h := rdT_tst h
  refine wpAny_isTrue_Compare1 (binT ha hb' I (two_read h) fun v u s2 xv yv H2 I2 rv ru ⟨st2, Z2, ι2, x, y, r2, rx2, ry, p2⟩ => ?_) hm
  refine thn (Q := EP X pins σ fun z H => ∃ k, z = .bl k ∧ Q k H) ?_ fun c s3 ⟨z, H3, I3, r3, k, e, q3⟩ => by
    subst e
    cases r3
    exact wpAny_truthy_bool ⟨H3, I3, q3⟩
  cases hi : ins? st2 C x with
  | none => rw [hi] at p2; exact p2.elim
  | some nf => cases hk : kdD st2 y with
    | none => rw [hi, hk] at p2; exact p2.elim
    | some kd =>
      rw [hi, hk] at p2
      dsimp only at p2
      split at p2
      · rename_i hokk
        obtain ⟨h1, h2⟩ := hok kd hokk fun t e => kd_names (e ▸ hk)
        obtain ⟨n', fs⟩ := nf
        obtain ⟨a', dx, gs, rfl, ex, hst, hn, hz, hH, hr'⟩ := ins_at r2 rx2 hi
        obtain rfl : v = Value.ref a' := rv
        obtain ⟨mA, J, _⟩ := ins_get I2.hok hH
        obtain ⟨od, J, _⟩ := J.look
        show wpAny (model X.prog X.w) X.A (richCompare .NotEq (.ref a') u) _ X.xe s2
        refine ne_own (by have := hr.un; omega) I2.kIn J (ty_looks I2 r2 ry hk h2 ru) h1 hs1 hs hf hob ?_
        exact own_bool (c := fun b => !b) G hr.in1 (by exact hG) rfl hb tk hl I2 r2 rx2 ry rfl ru p2
      · exact p2.elim
theorem sd_eqOOT (hok : EqOk X C ok) (hs : PySem.W.findIn X.K (.ref (He.ga X.K C)) "__eq__" = some (some (.ref f))) (hf : PySem.W.isFn X.K (.ref f) = true) (O : OkF X.prog X.w X.K X.mg X.base j f ps dvs fm) (hr : Room k X.A) (hk : j ≤ k) (hG : X.A.guards = some []) (tk : L2N.Takes X W) (hl : ps.length = 2)
    (ha : Sd X W a ma) (hb' : Sd X W b mb) (hm : behindInMarks .Eq b = false := by first | exact nomark _ | rfl) : SdT X W (.Compare a [.Eq] [b] pos) (mTst (mEqO C ok fm ma mb)) := by
  obtain ⟨fd, kp, G, b0, _⟩ := O
  exact sd_eqOT hok hs hf G (hr.mono hk) hG b0 tk hl ha hb' hm
theorem sd_neOOT (hok : EqOk X C ok) (hs1 : PySem.W.findIn X.K (.ref (He.ga X.K C)) "__ne__" = some (some (.builtin "object.__ne__"))) (hob : PySem.W.mroIn X.K (He.ga X.K C) (.type "object") = some true) (hs : PySem.W.findIn X.K (.ref (He.ga X.K C)) "__eq__" = some (some (.ref f))) (hf : PySem.W.isFn X.K (.ref f) = true) (O : OkF X.prog X.w X.K X.mg X.base j f ps dvs fm) (hr : Room k X.A) (hk : j + 1 ≤ k) (hG : X.A.guards = some []) (tk : L2N.Takes X W) (hl : ps.length = 2)
    (ha : Sd X W a ma) (hb' : Sd X W b mb) (hm : behindInMarks .NotEq b = false := by first | exact nomark _ | rfl) : SdT X W (.Compare a [.NotEq] [b] pos) (mTst (mNeO C ok fm ma mb)) := by
  obtain ⟨fd, kp, G, b0, _⟩ := O
  exact sd_neOT hok hs1 hob hs hf G (hr.mono hk) hG b0 tk hl ha hb' hm
end
end MP


set_option Elab.async false
set_option linter.all false
set_option maxRecDepth 100000
set_option maxHeartbeats 4000000
/-! MPNG: d.get(k, x) of dicts with nested keys -/
namespace MP
variable [Wd]
open PySem PySem.Spec PyProof.Rows L2
/-! != of two texts -/
section
variable {X : Cx} {W : WX} {o e f : Expr} {apos cpos pos : Pos} {td ty tx : TE} {mo me mf : ME}
end
end MP


/-! MPTC: the layers of tables without raise -/


set_option Elab.async false
set_option linter.all false
set_option maxRecDepth 100000
set_option maxHeartbeats 4000000
/-! MPTT: as MPT, without the layers of raise: own operators: x op y, x * n, n * x, x += y -/
namespace MP
variable [Wd]
open PySem PySem.Spec PyProof.Rows L2
section
variable {prog : Program} {w : World} {A : Around} {E : Value → Shared → Prop} {s : Shared} {K : PySem.W.Frag} {x C f g dx : Addr} {od : Option Obj}
end
section
variable {prog : Program} {w : World} {A : Around} {E : Value → Shared → Prop} {s : Shared} {K : PySem.W.Frag} {x C f : Addr} {ox : Obj} {od : Option Obj}
/-- the class and object are all that it comes from -/
def twoB (K : PySem.W.Frag) (C : Addr) : Bool := (PySem.W.clsIn K C).any fun cd => decide (cd.mro = [.ref C, .type "object"])
theorem twoB_first (h : twoB K C = true) : PySem.W.selfFirst K C = true := by
  obtain ⟨cd, hcd, hm⟩ := PySem.W.any_some h
  have hm := of_decide_eq_true hm
  unfold PySem.W.selfFirst
  rw [hcd]
  show (cd.mro.head? == some (.ref C)) = true
  rw [hm]
  exact beq_self_eq_true _
end
/-- x op y -/
def mBinO (C : Str) (fm : FM) (a b : ME) : ME := fun ρ s => bnd (a ρ s) fun x s => bnd (b ρ s) fun y s => match ins? s C x, ins? s C y with
  | some _, some _ => fm [x, y] s
  | _, _ => none
theorem back_of {X : Cx} {pins : List (Addr × Obj)} {σ : L2.St} {Q : VK} {z : Value} {s : Shared} (h : EP X pins σ Q z s) : PySem.W.CmpBack (EP X pins σ Q) z s := by
  have h' := h
  obtain ⟨v, H, I, r, q⟩ := h
  cases v <;> first | (cases r; exact h') | (obtain ⟨t, rfl⟩ := r; exact h')
section
variable {X : Cx} {W : WX} {e a b : Expr} {p pos : Pos} {ma mb : ME} {C m : Str} {k j : Nat} {f g : Addr} {fd : FuncData} {ps : List Str} {fm : FM} {dvs : List V} {op : Operator}
theorem sd_binO (hm : PySem.dunder op.info.2 = m) (h2 : twoB X.K (He.ga X.K C) = true) (hs : PySem.W.findIn X.K (.ref (He.ga X.K C)) m = some (some (.ref f))) (hf : PySem.W.isFn X.K (.ref f) = true) (O : OkF X.prog X.w X.K X.mg X.base j f ps dvs fm) (hr : Room k X.A) (hk : j ≤ k) (hG : X.A.guards = some []) (tk : L2N.Takes X W) (hl : ps.length = 2)
    (ha : Sd X W a ma) (hb' : Sd X W b mb) : Sd X W (.BinOp a op b pos) (mBinO C fm ma mb) := by
  obtain ⟨fd, kp, G, hb, _⟩ := O
  subst hm
  refine ⟨fun pins s σ H Q I h => ?_⟩
  refine wpAny_BinOp (binT ha hb' I (two_read h) fun v u s2 xv yv H2 I2 rv ru ⟨st2, Z2, ι2, x, y, r2, rx2, ry, p2⟩ => ?_)
  cases hi : ins? st2 C x with
  | none => rw [hi] at p2; exact p2.elim
  | some nf => cases hi2 : ins? st2 C y with
    | none => rw [hi, hi2] at p2; exact p2.elim
    | some nf2 =>
      rw [hi, hi2] at p2
      dsimp only at p2
      obtain ⟨n', fs⟩ := nf
      obtain ⟨n2, fs2⟩ := nf2
      obtain ⟨a', dx, gs, rfl, ex, hst, hn, hz, hH, hr'⟩ := ins_at r2 rx2 hi
      obtain ⟨b', dy, gs2, rfl, ey, hst2, hn2, hz2, hH2, hr2⟩ := ins_at r2 ry hi2
      obtain rfl : v = Value.ref a' := rv
      obtain rfl : u = Value.ref b' := ru
      obtain ⟨mA, J, _⟩ := ins_get I2.hok hH
      obtain ⟨od, J, _⟩ := J.look
      obtain ⟨mB, J2, _⟩ := ins_get I2.hok hH2
      obtain ⟨od2, J2, _⟩ := J2.look
      obtain ⟨mm, hF⟩ := I2.fr
      refine PySem.W.binop_K hF I2.ok.mod.kin J J2.type (twoB_first h2) hs hf ?_
      exact wpAny_mono (run_atG (us := [.ref a', .ref b']) (vs := [.ref a', .ref b']) (dvs := []) (ds := []) G (hr.mono hk) hG rfl hb .nil tk I2 (.cons rfl (.cons rfl .nil)) (sp_of (dd := [x, y]) (by rw [hl]; rfl) (.cons rx2 (.cons ry .nil)) r2 p2)) (fun _ _ q => back_of q) fun _ _ x => x
structure MulI (K : PySem.W.Frag) (C : Addr) : Prop where
  two : twoB K C = true
  rm : ∃ g : Addr, PySem.W.findIn K (.ref C) "__rmul__" = some (some (.ref g))
  i1 : ∃ fo, PySem.W.findIn K (.type "int") "__mul__" = some fo
  i2 : ∃ ro, PySem.W.findIn K (.type "int") "__rmul__" = some ro
  sub : PySem.W.subIn K (.type "int") (.ref C) = some false
  sup : PySem.W.subIn K (.ref C) (.type "int") = some false
end
/-! ### the facts -/
end MP



set_option Elab.async false
set_option linter.all false
set_option maxRecDepth 100000
set_option maxHeartbeats 4000000
/-! MPTS: tables as sets: in of an own class, signs in place, d.pop(k, x) of dicts with nested keys -/
namespace MP
section
open PySem
section
variable {prog : Program} {w : World} {A : Around} {E : Value → Shared → Prop} {s : Shared} {d : Addr} {v u : Value} {xs : List NEnt} {k : NestedKey}
theorem map_era {α β : Type} (f : α → β) : ∀ (l : List α) (j : Nat), (l.map f).eraseIdx j = (l.eraseIdx j).map f
  | [], _ => rfl
  | _ :: _, 0 => rfl
  | x :: l, j + 1 => congrArg (f x :: ·) (map_era f l j)
theorem takeN {Q : Option DictEntry → Shared → Prop} (hu : A.units + 8 < cLine) (hk : NestedIs s.heap k v ∧ k.depth ≤ 8) (ht : ∀ x, k ≠ .text x) (hd : NDict w s.heap d xs) (his : NKeys s.heap xs) (hsz : xs.length ≤ sizeLine)
    (h0 : placeN xs k = none → ∀ t, Q none { s with toks := t }) (h1 : ∀ e j x, placeN xs k = some j → xs[j]? = some x → e.val = x.2.2 → ∀ h' t, NDict w h' d (xs.eraseIdx j) → Heap.SameBut d s.heap h' → Q (some e) { s with heap := h', toks := t }) : wpAny (model prog w) A (Builtin.Dict.takeOut d v) Q E s := by
  obtain ⟨ob, es, ep, hob, hx, hdt, he, hn⟩ := hd
  have hk2 := hk.2
  have hes : es.size = xs.length := by rw [← Array.length_toList, he, List.length_map]
  unfold Builtin.Dict.takeOut
  try with_reducible refine wpAny_holding ?_
  refine wpAny_bind (pyHash_key k v A s _ hk.1 (by omega) (wpAny_bind (findN (s := { s with toks := s.toks + k.draws }) hu hk ht hob hdt he his hn ?_)))
  cases hp : placeN xs k with
  | none => exact wpAny_pure (h0 hp _)
  | some j =>
    obtain ⟨x, hxj, _⟩ := place_some hp
    refine wpAny_bind (wpAny_dictEntries (s := { s with toks := s.toks + k.draws }) hob hdt ?_)
    rw [ent_at he, hxj]
    refine wpAny_bind (wpAny_updateDictKeys (hz := by omega) (s := { s with toks := s.toks + k.draws }) hob hdt (wpAny_pure (h1 _ j x hp hxj rfl _ _ ⟨_, _, ep + 1, Heap.get?_update_self _ hob (Obj.isFreed_of_dict (Obj.data_mapDictKeys hdt _)), hx.mapDictKeys _, Obj.data_mapDictKeys hdt _, ?_, ?_⟩ (Heap.SameBut.update ..))))
    · have hjl : j < es.size := by rw [hes]; exact (List.getElem?_eq_some_iff.mp hxj).1
      have : (es.eraseIdxIfInBounds j).toList = es.toList.eraseIdx j := by
        obtain ⟨l⟩ := es
        simp
      rw [this, he]
      exact map_era ..
    · rw [← map_era]
      exact hn.sublist (List.eraseIdx_sublist ..)
theorem meetsPopN (hs : (d == sysModules) = false) (x : Value) :
    MeetsIn prog w (Builtin.«dict.pop» ⟨[.ref d, v, x], []⟩) (fun A R s => A.units + 9 < cLine ∧ (NestedIs s.heap k v ∧ k.depth ≤ 8) ∧ (∀ x, k ≠ .text x) ∧ NDict w s.heap d xs ∧ NKeys s.heap xs ∧ xs.length ≤ sizeLine ∧
      (placeN xs k = none → ∀ t, R (.ok (.ret x)) { s with toks := t }) ∧ ∀ j y, placeN xs k = some j → xs[j]? = some y → ∀ h' t, NDict w h' d (xs.eraseIdx j) → Heap.SameBut d s.heap h' → R (.ok (.ret y.2.2)) { s with heap := h', toks := t }) :=
  .of_wp fun A R s ⟨hu, hk, ht, hd, his, hsz, h1, h2⟩ => by
    obtain ⟨ob, es, ep, hob, hx, hdt, he, hn⟩ := id hd
    have hu2 : A.units + 1 + 8 < cLine := by omega
    unfold Builtin.«dict.pop»
    refine wpAny_bind ?_
    unfold Builtin.Dict.keyAndDefault
    refine wpAny_bind (wpAny_notOrdered_dict hd.typeIs ?_)
    show wpAny _ _ (pure (d, v, some x)) _ _ s
    refine wpAny_pure ?_
    dsimp only
    by_cases hp : (keyPart v).isSome = true
    · rw [if_pos hp]
      refine wpAny_bind (wpAny_pure ?_)
      simp only [Bool.false_eq_true, if_false]
      refine wpAny_bind (takeN hu2 hk ht hd his hsz (fun h0 t => ?_) fun e j y hj hy ev h' t hd' hs' => ?_)
      · simp only [Option.isNone_none, if_true]
        exact wpAny_bind (wpAny_missedRemoval_other hs (wpAny_bind (wpAny_rule (wpAny_pure ⟨x, rfl, h1 h0 t⟩))))
      · simp only [Option.isNone_some, Bool.false_eq_true, if_false]
        exact wpAny_bind (wpAny_letGo (wpAny_pure ⟨e.val, rfl, ev ▸ h2 j y hj hy h' t hd' hs'⟩))
    · rw [if_neg hp]
      refine wpAny_bind (wpAny_dictEntries hob hdt (wpAny_bind (wpAny_pure ?_)))
      by_cases hem : es.isEmpty = true
      · have h0 : placeN xs k = none := by
          have e0 : es.size = 0 := by simpa using hem
          have : xs.length = 0 := by rw [← List.length_map (f := entN w), ← he, Array.length_toList, e0]
          rw [List.length_eq_zero_iff.mp this]
          rfl
        rw [if_pos hem]
        refine wpAny_bind (wpAny_rule (wpAny_bind (wpAny_pure ?_)))
        simp only [Option.isNone_none, if_true]
        exact wpAny_bind (wpAny_missedRemoval_other hs (wpAny_bind (wpAny_rule (wpAny_pure ⟨x, rfl, h1 h0 s.toks⟩))))
      · rw [if_neg hem]
        refine wpAny_bind (takeN hu2 hk ht hd his hsz (fun h0 t => ?_) fun e j y hj hy ev h' t hd' hs' => ?_)
        · simp only [Option.isNone_none, if_true]
          exact wpAny_bind (wpAny_missedRemoval_other hs (wpAny_bind (wpAny_rule (wpAny_pure ⟨x, rfl, h1 h0 t⟩))))
        · simp only [Option.isNone_some, Bool.false_eq_true, if_false]
          exact wpAny_bind (wpAny_letGo (wpAny_pure ⟨e.val, rfl, ev ▸ h2 j y hj hy h' t hd' hs'⟩))
end
end
variable [Wd]
open PySem L2 PyProof.Rows
def eraV (ks : List NV) (k : NestedKey) : List NV := match placeV ks k with
  | some j => ks.eraseIdx j
  | none => ks
def eraNd (l : List (D × D)) (k : NestedKey) : List (D × D) := match placeD l k with
  | some j => l.eraseIdx j
  | none => l
theorem pair_era {α β : Type} {R : α → β → Prop} : ∀ {as : List α} {bs : List β} (j : Nat), Paired R as bs → Paired R (as.eraseIdx j) (bs.eraseIdx j)
  | _, _, _, .nil => .nil
  | _, _, 0, .cons _ t => t
  | _, _, j + 1, .cons h t => .cons h (pair_era j t)
def DPopN (X : Cx) (H : Hp) (a : Addr) (y : V) (r : Option V) (H' : Hp) : Prop := ∃ ks k, H a = some (dnO X.w a ks) ∧ NKs X.K H ks ∧ NKo X.K H k y ∧ ks.length < sizeLine ∧ r = valN ks k ∧ H' = upd H a (dnO X.w a (eraV ks k))
section
variable {X : Cx} {pins : List (Addr × Obj)} {σ : L2.St} {H : Hp} {s : Shared} {a : Addr} {y z : V} {u r : Value} {o : Option V} {A : Around} {E : Value → Shared → Prop}
theorem d_popN {H' : Hp} {Q : Value → Shared → Prop} (rz : RelV z r) (hu : A.units + 9 < cLine) (I : Inv X pins σ H s) (g : DPopN X H a y o H') (ry : RelV y u) (h : ∀ w' s', Inv X pins σ H' s' → RelV (o.getD z) w' → Q w' s') :
    wpAny (model X.prog X.w) A (call (.builtin "dict.pop") [.ref a, u, r]) Q E s := by
  obtain ⟨ks, k, e, n, c, l, e2, rfl⟩ := g
  obtain ⟨hz, hd, xs, rel, dd⟩ := dn_rd I (.inl e)
  refine call_meetsIn PySem.F.slot_dict_pop dd.typeIs PySem.F.entry_dict_pop (PySem.F.args_dict_pop_3 _ _ _) (meetsPopN (k := k) (xs := xs) hd r) ⟨hu, ⟨c.is rfl I ry, c.dp⟩, c.nt, dd, nks_of I n rel, by rw [← rel.len]; exact hz, fun h0 t => ?_, fun j p hj hp h' t dd' hs => ?_⟩
  · have hv : placeV ks k = none := by rw [rel.place k]; exact h0
    have he : eraV ks k = ks := by unfold eraV; rw [hv]
    have ev : o = none := by rw [e2]; unfold valN; rw [hv]; rfl
    have eH : upd H a (dnO X.w a (eraV ks k)) = H := by
      rw [he]
      funext b
      by_cases hb : b = a
      · subst hb; rw [upd_same, e]
      · exact upd_ne hb
    rw [eH] at h
    exact h _ _ (I.tok _) (by rw [ev]; exact rz)
  · have hv : placeV ks k = some j := by rw [rel.place k]; exact hj
    have he : eraV ks k = ks.eraseIdx j := by unfold eraV; rw [hv]
    refine h _ _ ?_ ?_
    · rw [he]
      exact d_write I (by rw [e]; exact True.intro) hs (let ⟨q, _, _, hq, _⟩ := dd'; ⟨q, hq⟩) (dn_ok (by exact Nat.le_trans (List.eraseIdx_sublist ..).length_le hz) hd (pair_era j rel) dd')
    · have rv := rel.val k
      rw [← e2] at rv
      have el : lookN xs k = some p.2.2 := by unfold lookN; rw [hj, Option.bind_some, hp]; rfl
      rw [el] at rv
      exact rv.getD rz
end
def tDPopN (X : Cx) (td ty tx : TE) : TE := fun σ H Q => td σ H fun x H1 => ∃ a, x = .ref a ∧ IsN X H1 a ∧ ty σ H1 fun y H2 => tx σ H2 fun z H3 => ∃ o H4, DPopN X H3 a y o H4 ∧ Q (o.getD z) H4
def mNPop (a b c : ME) : ME := fun ρ s => bnd (a ρ s) fun x s => if (nd? s x).isSome then bnd (b ρ s) fun y s => bnd (c ρ s) fun z s => (match x, nk? y with
  | .ref n, some k => (match s[n]? with
    | some (.dn l) => if l.length < 16777216 then some (.ok ((getNd l k).getD z) (s.set n (.dn (eraNd l k)))) else none
    | _ => none)
  | _, _ => none) else none
section
variable {X : Cx} {W : WX} {o e f : Expr} {apos cpos pos : Pos} {td ty tx : TE} {mo me mf : ME}
theorem pe_dpopN (hu : X.A.units + 9 < cLine) (ho : PE X o td) (he : PE X e ty) (hf : PE X f tx) (m : M2 X o "pop" apos e f cpos) : PE X (.Call (.Attribute o "pop" apos) [e, f] [] cpos) (tDPopN X td ty tx) where
  run := by
    intro pins s σ H Q I h
    exact wpAny_Call_method m.base m.few m.line PySem.F.plainAttrs_dict PySem.F.slot_dict_pop PySem.F.type_dict_pop (thn (ho.run pins s σ H _ I h) fun u s1 ⟨x, H1, I1, rx, a, ex, d, q1⟩ => by
      cases ex
      cases (show u = Value.ref a from rx)
      have t := isN_at I1 d
      refine ⟨t.1, t.2.1, ?_⟩
      rw [m.trees]
      exact Calls.callWith_builtin rfl (Calls.evalArgs_plain (Calls.spliced_cons (thn (he.run pins s1 σ H1 _ I1 q1) fun iv s2 ⟨y, H2, I2, ry, q2⟩ => Calls.spliced_cons (thn (hf.run pins s2 σ H2 _ I2 q2) fun fv s3 ⟨z, H3, I3, rz, ov, H4, g, q3⟩ => Calls.spliced_nil (d_popN rz hu I3 g ry fun w' s4 I4 rw' => ⟨_, H4, I4, rw', q3⟩))))))
theorem RpN.era {K : PySem.W.Frag} {Z : Hp} {ι : List Addr} {ks : List NV} {l : List (D × D)} {k : NestedKey} (h : RpN K Z ι ks l) : RpN K Z ι (eraV ks k) (eraNd l k) := by
  unfold eraV eraNd
  rw [h.place k]
  cases placeD l k with
  | none => exact h
  | some j => exact pair_era j h
theorem sd_npop (hw : X.w = Wd.w) (hu : X.A.units + 9 < cLine) (ho : Sd X W o mo) (he : Sd X W e me) (hf : Sd X W f mf) (m : M2 X o "pop" apos e f pos := by exact ⟨rfl, rfl, rfl, rfl⟩) : Sd X W (.Call (.Attribute o "pop" apos) [e, f] [] pos) (mNPop mo me mf) := by
  refine pe_imp (pe_dpopN hu ho he hf m) fun σ H Q ⟨ρ, st, Z, ι, en, r0, p⟩ => ?_
  refine rdG.mono (kont en r0 p) fun v H1 ⟨st1, Z1, ι1, x, g1, e1, r1, rx, p1⟩ => ?_
  by_cases hx : (nd? st1 x).isSome = true
  · rw [if_pos hx] at p1
    obtain ⟨l1, hl1⟩ := Option.isSome_iff_exists.mp hx
    obtain ⟨a, ks1, rfl, hH1, _⟩ := nd_at r1 rx hl1
    rw [← hw] at hH1
    refine ⟨a, rfl, ⟨ks1, hH1⟩, rdG.mono (kont e1 r1 p1) fun u H2 ⟨st2, Z2, ι2, y, g2, e2, r2, ry, p2⟩ => rdG.mono (kont e2 r2 p2) fun w3 H3 ⟨st3, Z3, ι3, z, g3, e3, r3, rz, p3⟩ => ?_⟩
    cases rx with
    | @ref n a hn =>
      cases hk : nk? y with
      | none => rw [hk] at p3; exact p3.elim
      | some k =>
        rw [hk] at p3
        dsimp only at p3
        have hn3 := g3.toExt.get (g2.toExt.get hn)
        obtain ⟨ob, hs, hob⟩ := r3.at_ hn3
        rw [hs] at p3
        cases ob with
        | dn l =>
          dsimp only at p3
          split at p3
          · rename_i hl
            obtain ⟨hz, ks, hH, hr⟩ := hob
            obtain ⟨r4, g4⟩ := r3.change (o := dnO Wd.w a (eraV ks k)) (ob := .dn (eraNd l k)) hn3 hz fun H' e' => ⟨hz, _, e', hr.era⟩
            refine ⟨valN ks k, _, ⟨ks, k, by rw [hw]; exact hH, hr.keys r3.zin, nko r3.zin (ry.mono g3.toExt) hk, by rw [hr.len, sizeLine_eq]; exact hl, rfl, rfl⟩, ?_⟩
            rw [hw]
            refine p3 _ _ _ _ g4 r4 ?_
            rcases hr.val k with ⟨h1, h2⟩ | ⟨d, w, h1, h2, h3⟩
            · rw [h1, h2]; exact rz.mono g4.toExt
            · rw [h1, h2]; exact h3.mono g4.toExt
          · exact p3.elim
        | _ => exact p3.elim
    | _ => exact p3.elim
  · rw [if_neg hx] at p1; exact p1.elim
end
/-! ### len(d) -/
section
open PySem
variable {prog : Program} {w : World} {A : Around} {E : Value → Shared → Prop} {s : Shared} {d : Addr} {xs : List NEnt}
theorem lenN {Q : Value → Shared → Prop} (hd : (d == sysModules) = false) (hn : NDict w s.heap d xs) (hf : xs.length ≤ 16777217) (h : ∀ n t, Q (.int xs.length n) { s with toks := t }) : wpAny (model prog w) A (call (.builtin "len") [.ref d]) Q E s := by
  have ht := hn.typeIs
  obtain ⟨ob, es, ep, hob, hx, hdt, he, hno⟩ := hn
  have hes : es.size = xs.length := by rw [← Array.length_toList, he, List.length_map]
  have inner : MeetsIn prog w (Builtin.«dict.__len__» ⟨[.ref d], []⟩) (fun _ R s' => s' = s ∧ R (.ok (.ret (.int xs.length s.toks))) { s with toks := s.toks + 1 }) := .of_wp fun A R s' ⟨e, q⟩ => by
    subst e
    show wpAny _ _ (dictSize d >>= _) _ _ s'
    unfold dictSize
    refine wpAny_bind (wpAny_bind (wpAny_dictEntries hob hdt (wpAny_pure ?_)))
    show wpAny _ _ (Builtin.Dict.pendingCount d >>= _) _ _ s'
    refine wpAny_bind (wpAny_pendingCount_other hd (wpAny_ret_mkInt ?_))
    rw [hes]
    exact q
  refine Calls.call_function_entry kind_len plain_len entry_len (args_len1 _) ?_
  unfold Builtin.«len»
  refine wpAny_bind (m := oneArg "len" _) (wpAny_pure (wpAny_bind (m := callSpecial? (.ref d) (Str.ofString "__len__")) ?_))
  refine wpAny_callSpecial?_slot (name := Str.ofString "__len__") ht F.slot_dict_len (call_meetsIn F.slot_dict_len ht F.entry_dict_len (F.args_dict_len_1 _) inner ⟨rfl, ?_⟩)
  show wpAny _ _ _ _ _ { s with toks := s.toks + 1 }
  refine wpAny_bind (wpAny_holding (wpAny_pure (wpAny_bind (wpAny_letGo ?_))))
  have lo : ¬ ((xs.length : Nat) : Int) < 0 := by omega
  have hi : ¬ ((xs.length : Nat) : Int) ≥ 2 ^ 63 := by omega
  show wpAny _ _ (if ((xs.length : Nat) : Int) < 0 then _ else _) _ _ _
  rw [if_neg lo]
  show wpAny _ _ (if ((xs.length : Nat) : Int) ≥ 2 ^ 63 then _ else _) _ _ _
  rw [if_neg hi]
  exact wpAny_bind (wpAny_mkInt (wpAny_pure ⟨_, rfl, h _ _⟩))
end
def rLenN (X : Cx) : List V → Hp → VK → Prop := fun xs H Q => ∃ d ks, xs = [V.ref d] ∧ Rd H d (dnO X.w d ks) ∧ Q (.int (ks.length : Nat)) H
theorem call_lenN {X : Cx} : CallR X (.builtin "len") (rLenN X) := by
  intro pins s σ H vs us Q I r h
  obtain ⟨d, ks, rfl, hd, q⟩ := h
  obtain ⟨u, rfl, rx⟩ := r.one
  cases rx
  obtain ⟨z, hs, xs, rel, dd⟩ := dn_rd I hd
  rw [sizeLine_eq] at z
  refine lenN hs dd (by rw [← rel.len]; omega) fun n t => ⟨.int ((ks.length : Nat) : Int), H, I.tok _, ⟨n, by rw [rel.len]⟩, q⟩
def gLenN (s : Sto) : List D → Option D
  | [x] => (nd? s x).map fun l => .int l.length
  | _ => none
theorem cs_lenN {X : Cx} (hw : X.w = Wd.w) : CallS X.K (pu gLenN) (rLenN X) := fun st st' ds d vs H Z ι Q hf r hv k => by
  obtain ⟨hf, rfl⟩ := pu_inv hf
  cases hv with
  | nil => cases hf
  | cons h q => cases q with
    | cons _ _ => cases hf
    | nil =>
      obtain ⟨l, hl, rfl⟩ := Option.map_eq_some_iff.mp (show (nd? st' _).map _ = some d from hf)
      obtain ⟨a, ks, rfl, hH, hr⟩ := nd_at r h hl
      rw [← hw] at hH
      exact ⟨a, ks, rfl, hH, by rw [hr.len]; exact k _ H Z ι (Grow.refl _ _ _) r (.int _)⟩
/-! ### x in an own object; signs in place; is not of truths -/
def mInO (C : Str) (fm : FM) (a b : ME) : ME := fun ρ s => bnd (a ρ s) fun x s => bnd (b ρ s) fun y s => match ins? s C y with
  | some _ => bnd (fm [y, x] s) fun d s => (match d with
    | .bl k => some (.ok (.bl k) s)
    | _ => none)
  | none => none
def mAugI (i : Nat) (C : Str) (fm : FM) (e : ME) : MS := fun ρ s => match ρ[i]? with
  | some (some x) => bndS (e ρ s) ρ fun y s => (match ins? s C x with
    | some _ => bndS (fm [x, y] s) ρ fun d s => some (.nx (ρ.set i (some d)) s)
    | none => none)
  | _ => none
def fNotB : Sto → D → D → Option D := fun _ x y => match x, y with
  | .bl a, .bl b => some (.bl (!decide (a = b)))
  | _, _ => none
theorem os_notB {K : PySem.W.Frag} : OpS K fNotB (fun x y H Q => ∃ a b, x = .bl a ∧ y = .bl b ∧ Q (.bl (!decide (a = b))) H) := fun st x y d v u H Z ι Q hf r hx hy k => by
  cases hx with
  | bl a => cases hy with
    | bl b => cases hf; exact ⟨a, b, rfl, rfl, k _ H Z (Grow.refl _ _ _) r (.bl _)⟩
    | _ => cases hf
  | _ => cases hf
section
variable {X : Cx} {W : WX} {e a b : Expr} {p pos : Pos} {ma mb : ME} {C : Str} {k j : Nat} {f : Addr} {ps : List Str} {fm : FM} {op : Operator}
theorem sd_inO (hs : PySem.W.findIn X.K (.ref (He.ga X.K C)) "__contains__" = some (some (.ref f))) (hf : PySem.W.isFn X.K (.ref f) = true) (O : OkF X.prog X.w X.K X.mg X.base j f ps [] fm) (hr : Room k X.A) (hk : j ≤ k) (hG : X.A.guards = some []) (tk : L2N.Takes X W) (hl : ps.length = 2)
    (ha : Sd X W a ma) (hb' : Sd X W b mb) (hm : behindInMarks .In b = false := by first | exact nomark _ | rfl) : Sd X W (.Compare a [.In] [b] pos) (mInO C fm ma mb) := by
  obtain ⟨fd, kp, G, hb, _⟩ := O
  refine ⟨fun pins s σ H Q I h => ?_⟩
  refine wpAny_Compare1 (binT ha hb' I (two_read h) fun v u s2 xv yv H2 I2 rv ru ⟨st2, Z2, ι2, x, y, r2, rx2, ry, p2⟩ => ?_) hm
  cases hi : ins? st2 C y with
  | none => rw [hi] at p2; exact p2.elim
  | some nf =>
    rw [hi] at p2
    dsimp only at p2
    obtain ⟨n', fs⟩ := nf
    obtain ⟨a', dx, gs, rfl, ex, hst, hn, hz, hH, hr'⟩ := ins_at r2 ry hi
    obtain rfl : u = Value.ref a' := ru
    obtain ⟨mA, J, _⟩ := ins_get I2.hok hH
    obtain ⟨od, J, _⟩ := J.look
    obtain ⟨m, hF⟩ := I2.fr
    show wpAny (model X.prog X.w) X.A (compareOp .In v (.ref a')) (EP X pins σ Q) X.xe s2
    refine PySem.W.in_K hF I2.ok.mod.kin J hs hf ?_
    refine wpAny_mono (own_bool (c := id) G (hr.mono hk) hG rfl hb tk hl I2 r2 ry rx2 rfl rv p2) (fun z s3 ⟨b, e, q⟩ => ?_) fun _ _ x => x
    subst e
    exact wpAny_truthy_bool q
theorem ss_augI {i : Nat} {x m : Str} {pos' : Pos} (hN : X.N.Nodup) (hmi : dunderI op.info.2 = m) (h2 : twoB X.K (He.ga X.K C) = true)
    (hs : PySem.W.findIn X.K (.ref (He.ga X.K C)) m = some (some (.ref f))) (hf : PySem.W.isFn X.K (.ref f) = true) (O : OkF X.prog X.w X.K X.mg X.base j f ps [] fm) (hr : Room k X.A) (hk : j ≤ k) (hG : X.A.guards = some []) (tk : L2N.Takes X W) (hl : ps.length = 2)
    (he : Sd X W e ma) (hi : X.N[i]? = some x := by rfl) (hx : Loc X.env.scope x := by first | exact Or.inl rfl | exact Or.inr rfl) (hfn : X.fn x = true ∨ X.env.scope.names.lookup x = some .local := by first | exact .inl rfl | exact .inr rfl) :
    SdS X W (.AugAssign (.Name x pos') op e pos) (mAugI i C fm ma) := by
  obtain ⟨fd, kp, G, hb, _⟩ := O
  subst hmi
  refine ⟨fun pins s σ H D I ⟨ρ, st, Z, ι, en, r, p⟩ => ?_⟩
  unfold mAugI at p
  split at p
  · rename_i dx0 hd0
    obtain ⟨v, e1, rv⟩ := en.at_ i dx0 hd0
    obtain ⟨mm, hn, hlo⟩ := I.loc
    have vis : Vis X.env.scope x := by rcases hx with k | k; exact .inl k; exact .inr (.inl k)
    obtain ⟨u, ru, lc⟩ := hlo i x v hi e1 vis
    refine wpAny_AugAssign_Name ?_
    have go : wpAny (model X.prog X.w) X.A (eval e X.env) (fun w s₂ => wpAny (model X.prog X.w) X.A (inplaceOp op u w) (fun r s₃ => wpAny (model X.prog X.w) X.A (storeName X.env x r) (fun _ => SP X pins D .next) X.xe s₃) X.xe s₂) X.xe s := by
      refine thn (he.run pins s σ H _ I (skont en r p)) fun w s1 ⟨y, H1, I1, ry1, st1, Z1, ι1, d, g1, e1', r1, rd1, p1⟩ => ?_
      have rx1 := rv.mono g1.toExt
      cases hi1 : ins? st1 C dx0 with
      | none => rw [hi1] at p1; exact p1.elim
      | some nf =>
        rw [hi1] at p1
        dsimp only at p1
        obtain ⟨n', fs⟩ := nf
        obtain ⟨a', dx, gs, rfl, ex, hst, hn', hz, hH, hr'⟩ := ins_at r1 rx1 hi1
        obtain rfl : u = Value.ref a' := ru
        obtain ⟨mA, J, _⟩ := ins_get I1.hok hH
        obtain ⟨od, J, _⟩ := J.look
        obtain ⟨m2, hF⟩ := I1.fr
        have hsp : spM X.K ps.length fm [.ref a', y] H1 (fun zv H3 => D.nx (σ.set i (some zv)) H3) (WE W σ) := by
          refine sp_of (dd := [dx0, d]) (by rw [hl]; rfl) (.cons rx1 (.cons rd1 .nil)) r1 ?_
          cases hq : fm [dx0, d] st1 with
          | none => rw [hq] at p1; exact p1.elim
          | some q =>
            rw [hq] at p1
            cases q with
            | ex z s' => exact fun c dd H4 Z4 ι4 g4 r4 q4 => p1 c dd σ H4 Z4 ι4 g4 r4 (e1'.mono g4.toExt) q4
            | ok z s' => exact fun zv H4 Z4 ι4 g4 r4 q4 => p1 _ H4 Z4 ι4 g4 r4 ((e1'.mono g4.toExt).set i q4)
        refine thn (PySem.W.ksp_inplace hF I1.ok.mod.kin J (twoB_first h2) hs hf (wpAny_mono (run_atG (us := [.ref a', w]) (vs := [.ref a', y]) (dvs := []) (ds := []) G (hr.mono hk) hG rfl hb .nil tk I1 (.cons rfl (.cons ry1 .nil)) hsp) (fun _ _ q => back_of q) fun _ _ x => x)) fun z s2 ⟨zv, H2, I2, r2, q2⟩ => ?_
        exact store_ok I2 hN hi hx r2 (fun s3 I3 => ⟨_, H2, I3, q2⟩) hfn
    rcases lc with ⟨hk, hm⟩ | ⟨hk, c, hc, hcell⟩
    · exact wpAny_loadName_local I.ok.kind hk hn hm go
    · rcases hk with hk | hk
      · exact wpAny_loadName_cell I.ok.kind hk hc hcell go
      · rcases hx with k | k
        · have : X.env.scope.names.lookup x = some .free := hk
          rw [k] at this; cases this
        · have : X.env.scope.names.lookup x = some .free := hk
          rw [k] at this; cases this
  · exact p.elim
end
/-! ### the dict in a field is walked -/
def heldFN (ρ : Env) (i : Nat) (f : Str) (s : Sto) : Option (Nat × List (D × D)) := match ρ[i]? with
  | some (some (.ref t)) => (match s[t]? with
    | some (.ins _ fs) => (match fs.lookup f with
      | some (.ref n) => (match s[n]? with
        | some (.dn l) => some (n, l)
        | _ => none)
      | _ => none)
    | _ => none)
  | _ => none
theorem heldFN_at {ρ : Env} {i : Nat} {f : Str} {s : Sto} {n : Nat} {l : List (D × D)} (h : heldFN ρ i f s = some (n, l)) : s[n]? = some (.dn l) := by
  unfold heldFN at h
  split at h
  · split at h
    · split at h
      · split at h
        · cases h; assumption
        · cases h
      · cases h
    · cases h
  · cases h
def mHeldFE (i : Nat) (f : Str) (m : ME) : ME := fun ρ s => match heldFN ρ i f s with
  | some (n, l) => (match m ρ (s.set n (.dnz l)) with
    | some (.ok d s2) => some (.ok d (s2.set n (.dn l)))
    | _ => none)
  | none => none
theorem sd_heldFE {X : Cx} {W : WX} {e : Expr} {m : ME} (i : Nat) (f : Str) (h : Sd X W e m) : Sd X W e (mHeldFE i f m) := by
  refine pe_imp (pe_lock h) fun σ H Q ⟨ρ, st, Z, ι, en, r, p⟩ => ?_
  unfold mHeldFE at p
  cases hl : heldFN ρ i f st with
  | none => rw [hl] at p; exact p.elim
  | some nl =>
    obtain ⟨n, l⟩ := nl
    rw [hl] at p
    dsimp only at p
    have hs := heldFN_at hl
    have hnl : n < ι.length := by rw [r.len]; exact (List.getElem?_eq_some_iff.mp hs).1
    obtain ⟨a, hn⟩ : ∃ a, ι[n]? = some a := ⟨_, List.getElem?_eq_getElem hnl⟩
    obtain ⟨ks, hH, hz, hr, lk⟩ := r.lockN hs hn
    refine ⟨a, _, hH, True.intro, fun od => ?_⟩
    obtain ⟨r1, g1⟩ := lk od
    refine ⟨ρ, _, _, ι, en.mono g1, r1, ?_⟩
    cases hm : m ρ (st.set n (.dnz l)) with
    | none => rw [hm] at p; exact p.elim
    | some q => cases q with
      | ex x s2 => rw [hm] at p; exact p.elim
      | ok d s2 =>
        rw [hm] at p
        intro b H2 Z2 ι2 g2 r2 rb
        have hz2 := g2.z _ _ (upd_same (H := Z) (a := a) (o := .frz od (dnO Wd.w a ks)))
        exact ⟨r2.zin _ _ hz2, p b _ _ ι2 (g2.unlock hz (List.mem_of_getElem? hn)) (r2.unlockN (g2.toExt.get hn) hz2 ((hr.mono g1).mono g2.toExt)) (rb.open_ hz2)⟩
/-! ### C(..) with defaults -/
theorem sd_makeD {X : Cx} {W : WX} {e : Expr} {es : List Expr} {p pos : Pos} {ms : MA} {C x : Str} {k j : Nat} {f : Addr} {ps : List Str} {fm : FM} {dvs : List V} {dfs : List D} (M : Mk X.K (He.ga X.K C) f) (O : OkF X.prog X.w X.K X.mg X.base j f ps dvs fm) (hr : Room k X.A) (hk : j + 1 ≤ k) (hG : X.A.guards = some []) (hm : X.mg x = some (.ref (He.ga X.K C))) (hdd : ∀ Z ι, RpL X.K Z ι dvs dfs) (tk : L2N.Takes X W) (ha : SdA X W (e :: es) ms)
    (hl : ∀ ρ s ds s', ms ρ s = some (.ok ds s') → ds.length + dfs.length + 1 = ps.length) (hg : Gl X x := by rfl) (hdb : (x == ("__debug__" : Str)) = false := by decide)
    (he : starEach (e :: es) X.env = (false, eval e X.env) :: starEach es X.env := by rfl) (hpl : (backTo pos (starEach es X.env)).any (·.1) = false := by rfl) :
    Sd X W (.Call (.Name x p) (e :: es) [] pos) (mMake C (fun ds => fm (ds ++ dfs)) ms) := by
  obtain ⟨fd, kp, G, _, ds, hv, b1⟩ := O
  exact sd_make M G (hr.mono hk) hG hm b1 hv hdd tk ha hl hg hdb he hpl
end MP



set_option Elab.async false
set_option linter.all false
set_option maxRecDepth 100000
set_option maxHeartbeats 4000000
namespace MP
open PySem L2
/-! the text of law_k38_tables_as_sets -/
def topS (i : Nat) : Stmt := PySem.Challenge.pw_heldback_k38_tables_as_sets.main.body.getD i (.Pass ⟨0, 0, 0, 0⟩)
def clsB : Stmt → List Stmt
  | .ClassDef (body := b) .. => b
  | _ => []
def clsS (i j : Nat) : Stmt := (clsB (topS i)).getD j (.Pass ⟨0, 0, 0, 0⟩)
abbrev s_l_start : Stmt := topS 16
abbrev s_l_draw : Stmt := topS 15
abbrev s_l_pick : Stmt := topS 17
abbrev s_l_name : Stmt := topS 20
abbrev s_l_names : Stmt := topS 21
abbrev s_l_grid : Stmt := topS 24
abbrev s_l_squares : Stmt := topS 25
abbrev s_p_is_name : Stmt := topS 9
abbrev s_p_sorted_names : Stmt := topS 12
abbrev s_p_is_list : Stmt := topS 10
abbrev s_c_Table_known_square : Stmt := clsS 13 1
abbrev s_c_Table_init : Stmt := clsS 13 0
abbrev s_c_Table_squares : Stmt := clsS 13 4
abbrev s_l_some : Stmt := topS 26
abbrev s_l_mixed : Stmt := topS 18
abbrev s_l_listed : Stmt := topS 22
abbrev s_l_spoil : Stmt := topS 23
abbrev s_c_Table_cellsB : Stmt := clsS 13 2
abbrev s_c_Table_waysB : Stmt := clsS 13 3
abbrev s_c_Table_squaresB : Stmt := clsS 13 4
abbrev s_l_made : Stmt := topS 28
abbrev s_c_Table_check : Stmt := clsS 13 7
abbrev s_c_Table_within : Stmt := clsS 13 8
abbrev s_l_same : Stmt := topS 19
abbrev s_c_Table_eq : Stmt := clsS 13 15
abbrev s_l_compared : Stmt := topS 33
abbrev s_l_united : Stmt := topS 29
abbrev s_c_Table_put_square : Stmt := clsS 13 9
abbrev s_c_Table_setitem : Stmt := clsS 13 11
abbrev s_c_Table_other_table : Stmt := clsS 13 6
abbrev s_c_Table_twin : Stmt := clsS 13 5
abbrev s_c_Table_or : Stmt := clsS 13 16
abbrev s_c_Table_and : Stmt := clsS 13 17
abbrev s_c_Table_sub : Stmt := clsS 13 18
abbrev s_c_Table_xor : Stmt := clsS 13 19
abbrev s_l_signed : Stmt := topS 30
abbrev s_c_Table_become : Stmt := clsS 13 20
abbrev s_c_Table_ior : Stmt := clsS 13 21
abbrev s_c_Table_iand : Stmt := clsS 13 22
abbrev s_c_Table_isub : Stmt := clsS 13 23
abbrev s_c_Table_ixor : Stmt := clsS 13 24
abbrev s_l_in_place : Stmt := topS 31
abbrev s_l_deed : Stmt := topS 32
abbrev s_c_Table_cells : Stmt := clsS 13 2
abbrev s_c_Table_ways : Stmt := clsS 13 3
abbrev s_c_Table_getitem : Stmt := clsS 13 10
abbrev s_c_Table_contains : Stmt := clsS 13 12
abbrev s_c_Table_len : Stmt := clsS 13 14
abbrev s_l_table_shows : Stmt := topS 27
abbrev s_law_ : Stmt := topS 34
theorem sc_l_start : FnScope ["_law_script"] ["_law_script"] (defScope s_l_start) := ⟨rfl, rfl, rfl, by decide +kernel, rfl, by decide +kernel, by decide +kernel⟩
theorem sc_l_draw : FnScope ["_law_stream", "_law_many", "_law_mixed_here", "_law_digit"] ["_law_stream", "_law_many"] (defScope s_l_draw) := ⟨rfl, rfl, rfl, by decide +kernel, rfl, by decide +kernel, by decide +kernel⟩
theorem sc_l_pick : FnScope ["_law_stream", "_law_some_here"] ["_law_stream", "_law_some_here"] (defScope s_l_pick) := ⟨rfl, rfl, rfl, by decide +kernel, rfl, by decide +kernel, by decide +kernel⟩
theorem sc_l_name : FnScope ["_law_stream", "_law_size", "_law_k"] ["_law_stream"] (defScope s_l_name) := ⟨rfl, rfl, rfl, by decide +kernel, rfl, by decide +kernel, by decide +kernel⟩
theorem sc_l_names : FnScope ["_law_stream", "_law_many", "_law_names_here", "_law_k", "_law_name_here", "_law_spare", "_law_letter", "_law_one"] ["_law_stream", "_law_many"] (defScope s_l_names) := ⟨rfl, rfl, rfl, by decide +kernel, rfl, by decide +kernel, by decide +kernel⟩
theorem sc_l_grid : FnScope ["_law_stream", "_law_names_here", "_law_cells", "_law_ways"] ["_law_stream"] (defScope s_l_grid) := ⟨rfl, rfl, rfl, by decide +kernel, rfl, by decide +kernel, by decide +kernel⟩
theorem sc_l_squares : FnScope ["_law_cells", "_law_ways", "_law_found", "_law_cell", "_law_way"] ["_law_cells", "_law_ways"] (defScope s_l_squares) := ⟨rfl, rfl, rfl, by decide +kernel, rfl, by decide +kernel, by decide +kernel⟩
theorem sc_p_is_name : FnScope ["thing", "sign"] ["thing"] (defScope s_p_is_name) := ⟨rfl, rfl, rfl, by decide +kernel, rfl, by decide +kernel, by decide +kernel⟩
theorem sc_p_sorted_names : FnScope ["things", "thing"] ["things"] (defScope s_p_sorted_names) := ⟨rfl, rfl, rfl, by decide +kernel, rfl, by decide +kernel, by decide +kernel⟩
theorem sc_p_is_list : FnScope ["thing"] ["thing"] (defScope s_p_is_list) := ⟨rfl, rfl, rfl, by decide +kernel, rfl, by decide +kernel, by decide +kernel⟩
theorem sc_c_Table_known_square : FnScope ["self", "thing"] ["self", "thing"] (defScope s_c_Table_known_square) := ⟨rfl, rfl, rfl, by decide +kernel, rfl, by decide +kernel, by decide +kernel⟩
theorem sc_c_Table_init : FnScope ["self", "cells", "ways", "squares", "thing"] ["self", "cells", "ways", "squares"] (defScope s_c_Table_init) := ⟨rfl, rfl, rfl, by decide +kernel, rfl, by decide +kernel, by decide +kernel⟩
theorem sc_c_Table_squares : FnScope ["self"] ["self"] (defScope s_c_Table_squares) := ⟨rfl, rfl, rfl, by decide +kernel, rfl, by decide +kernel, by decide +kernel⟩
theorem sc_l_some : FnScope ["_law_stream", "_law_things", "_law_thing"] ["_law_stream", "_law_things"] (defScope s_l_some) := ⟨rfl, rfl, rfl, by decide +kernel, rfl, by decide +kernel, by decide +kernel⟩
theorem sc_l_mixed : FnScope ["_law_stream", "_law_some_here", "_law_left", "_law_k"] ["_law_stream", "_law_some_here"] (defScope s_l_mixed) := ⟨rfl, rfl, rfl, by decide +kernel, rfl, by decide +kernel, by decide +kernel⟩
theorem sc_l_listed : FnScope ["_law_stream", "_law_thing", "_law_inner", "_law_one"] ["_law_stream", "_law_thing"] (defScope s_l_listed) := ⟨rfl, rfl, rfl, by decide +kernel, rfl, by decide +kernel, by decide +kernel⟩
theorem sc_l_spoil : FnScope ["_law_thing", "_law_one"] ["_law_thing"] (defScope s_l_spoil) := ⟨rfl, rfl, rfl, by decide +kernel, rfl, by decide +kernel, by decide +kernel⟩
theorem sc_c_Table_cellsB : FnScope ["self"] ["self"] (defScope s_c_Table_cellsB) := ⟨rfl, rfl, rfl, by decide +kernel, rfl, by decide +kernel, by decide +kernel⟩
theorem sc_c_Table_waysB : FnScope ["self"] ["self"] (defScope s_c_Table_waysB) := ⟨rfl, rfl, rfl, by decide +kernel, rfl, by decide +kernel, by decide +kernel⟩
theorem sc_c_Table_squaresB : FnScope ["self"] ["self"] (defScope s_c_Table_squaresB) := ⟨rfl, rfl, rfl, by decide +kernel, rfl, by decide +kernel, by decide +kernel⟩
theorem sc_l_made : FnScope ["_law_stream", "_law_cells", "_law_ways", "_law_squares_here", "_law_some_here", "_law_others", "_law_given", "_law_table", "_law_thing"] ["_law_stream", "_law_cells", "_law_ways", "_law_squares_here"] (defScope s_l_made) := ⟨rfl, rfl, rfl, by decide +kernel, rfl, by decide +kernel, by decide +kernel⟩
theorem sc_c_Table_check : FnScope ["self", "other"] ["self", "other"] (defScope s_c_Table_check) := ⟨rfl, rfl, rfl, by decide +kernel, rfl, by decide +kernel, by decide +kernel⟩
theorem sc_c_Table_within : FnScope ["self", "other", "square"] ["self", "other"] (defScope s_c_Table_within) := ⟨rfl, rfl, rfl, by decide +kernel, rfl, by decide +kernel, by decide +kernel⟩
theorem sc_l_same : FnScope ["_law_found", "_law_due"] ["_law_found", "_law_due"] (defScope s_l_same) := ⟨rfl, rfl, rfl, by decide +kernel, rfl, by decide +kernel, by decide +kernel⟩
theorem sc_c_Table_eq : FnScope ["self", "other", "same"] ["self", "other"] (defScope s_c_Table_eq) := ⟨rfl, rfl, rfl, by decide +kernel, rfl, by decide +kernel, by decide +kernel⟩
theorem sc_l_compared : FnScope ["_law_tables", "_law_models", "_law_one", "_law_mine", "_law_other", "_law_theirs", "_law_told", "_law_less", "_law_square"] ["_law_tables", "_law_models"] (defScope s_l_compared) := ⟨rfl, rfl, rfl, by decide +kernel, rfl, by decide +kernel, by decide +kernel⟩
theorem sc_l_united : FnScope ["_law_way", "_law_one", "_law_other", "_law_more", "_law_square"] ["_law_way", "_law_one", "_law_other"] (defScope s_l_united) := ⟨rfl, rfl, rfl, by decide +kernel, rfl, by decide +kernel, by decide +kernel⟩
theorem sc_c_Table_put_square : FnScope ["self", "square", "worth"] ["self", "square", "worth"] (defScope s_c_Table_put_square) := ⟨rfl, rfl, rfl, by decide +kernel, rfl, by decide +kernel, by decide +kernel⟩
theorem sc_c_Table_setitem : FnScope ["self", "at", "worth", "square"] ["self", "at", "worth"] (defScope s_c_Table_setitem) := ⟨rfl, rfl, rfl, by decide +kernel, rfl, by decide +kernel, by decide +kernel⟩
theorem sc_c_Table_other_table : FnScope ["self", "squares"] ["self", "squares"] (defScope s_c_Table_other_table) := ⟨rfl, rfl, rfl, by decide +kernel, rfl, by decide +kernel, by decide +kernel⟩
theorem sc_c_Table_twin : FnScope ["self"] ["self"] (defScope s_c_Table_twin) := ⟨rfl, rfl, rfl, by decide +kernel, rfl, by decide +kernel, by decide +kernel⟩
theorem sc_c_Table_or : FnScope ["self", "other"] ["self", "other"] (defScope s_c_Table_or) := ⟨rfl, rfl, rfl, by decide +kernel, rfl, by decide +kernel, by decide +kernel⟩
theorem sc_c_Table_and : FnScope ["self", "other", "square"] ["self", "other"] (defScope s_c_Table_and) := ⟨rfl, rfl, rfl, by decide +kernel, rfl, by decide +kernel, by decide +kernel⟩
theorem sc_c_Table_sub : FnScope ["self", "other", "square"] ["self", "other"] (defScope s_c_Table_sub) := ⟨rfl, rfl, rfl, by decide +kernel, rfl, by decide +kernel, by decide +kernel⟩
theorem sc_c_Table_xor : FnScope ["self", "other"] ["self", "other"] (defScope s_c_Table_xor) := ⟨rfl, rfl, rfl, by decide +kernel, rfl, by decide +kernel, by decide +kernel⟩
theorem sc_l_signed : FnScope ["_law_way", "_law_one", "_law_other"] ["_law_way", "_law_one", "_law_other"] (defScope s_l_signed) := ⟨rfl, rfl, rfl, by decide +kernel, rfl, by decide +kernel, by decide +kernel⟩
theorem sc_c_Table_become : FnScope ["self", "other", "square"] ["self", "other"] (defScope s_c_Table_become) := ⟨rfl, rfl, rfl, by decide +kernel, rfl, by decide +kernel, by decide +kernel⟩
theorem sc_c_Table_ior : FnScope ["self", "other"] ["self", "other"] (defScope s_c_Table_ior) := ⟨rfl, rfl, rfl, by decide +kernel, rfl, by decide +kernel, by decide +kernel⟩
theorem sc_c_Table_iand : FnScope ["self", "other"] ["self", "other"] (defScope s_c_Table_iand) := ⟨rfl, rfl, rfl, by decide +kernel, rfl, by decide +kernel, by decide +kernel⟩
theorem sc_c_Table_isub : FnScope ["self", "other"] ["self", "other"] (defScope s_c_Table_isub) := ⟨rfl, rfl, rfl, by decide +kernel, rfl, by decide +kernel, by decide +kernel⟩
theorem sc_c_Table_ixor : FnScope ["self", "other"] ["self", "other"] (defScope s_c_Table_ixor) := ⟨rfl, rfl, rfl, by decide +kernel, rfl, by decide +kernel, by decide +kernel⟩
theorem sc_l_in_place : FnScope ["_law_way", "_law_one", "_law_other"] ["_law_way", "_law_one", "_law_other"] (defScope s_l_in_place) := ⟨rfl, rfl, rfl, by decide +kernel, rfl, by decide +kernel, by decide +kernel⟩
theorem sc_l_deed : FnScope ["_law_stream", "_law_tables", "_law_models", "_law_squares_here", "_law_kind", "_law_k", "_law_j", "_law_way", "_law_worth", "_law_table", "_law_spot", "_law_cell", "_law_letter", "_law_held"] ["_law_stream", "_law_tables", "_law_models", "_law_squares_here"] (defScope s_l_deed) := ⟨rfl, rfl, rfl, by decide +kernel, rfl, by decide +kernel, by decide +kernel⟩
theorem sc_c_Table_cells : FnScope ["self"] ["self"] (defScope s_c_Table_cells) := ⟨rfl, rfl, rfl, by decide +kernel, rfl, by decide +kernel, by decide +kernel⟩
theorem sc_c_Table_ways : FnScope ["self"] ["self"] (defScope s_c_Table_ways) := ⟨rfl, rfl, rfl, by decide +kernel, rfl, by decide +kernel, by decide +kernel⟩
theorem sc_c_Table_getitem : FnScope ["self", "at"] ["self", "at"] (defScope s_c_Table_getitem) := ⟨rfl, rfl, rfl, by decide +kernel, rfl, by decide +kernel, by decide +kernel⟩
theorem sc_c_Table_contains : FnScope ["self", "thing", "square"] ["self", "thing"] (defScope s_c_Table_contains) := ⟨rfl, rfl, rfl, by decide +kernel, rfl, by decide +kernel, by decide +kernel⟩
theorem sc_c_Table_len : FnScope ["self"] ["self"] (defScope s_c_Table_len) := ⟨rfl, rfl, rfl, by decide +kernel, rfl, by decide +kernel, by decide +kernel⟩
theorem sc_l_table_shows : FnScope ["_law_table", "_law_cells", "_law_ways", "_law_squares_here", "_law_told", "_law_square", "_law_spot", "_law_cell", "_law_way"] ["_law_table", "_law_cells", "_law_ways", "_law_squares_here"] (defScope s_l_table_shows) := ⟨rfl, rfl, rfl, by decide +kernel, rfl, by decide +kernel, by decide +kernel⟩
theorem sc_law_ : FnScope ["_law_script", "_law_stream", "_law_turn", "_law_squares_here", "_law_models", "_law_tables", "_law_deed_here", "_law_spare", "_law_other", "_law_moved", "_law_pair", "_law_others", "_law_cells", "_law_ways", "_law_k", "_law_model", "_law_table", "_law_name_here", "_law_way", "_law_thing"] ["_law_script"] (defScope s_law_) := ⟨rfl, rfl, rfl, by decide +kernel, rfl, by decide +kernel, by decide +kernel⟩
end MP

set_option Elab.async false
set_option linter.all false
set_option maxRecDepth 100000
set_option maxHeartbeats 4000000
namespace MP
open PySem L2
/-! the readings of law_k38_tables_as_sets -/
abbrev isC_Table : Kd → Option Bool := isC "Table"
abbrev okE_Table : Kd → Bool := okE "Table"
noncomputable def l_start : FM := fnM 1 (mRet (mLstB (mCons (mCallB gListB (mCons (mVar 0) (mNil))) (mCons (mC (.int 0)) (mCons (mC (.int 0)) (mCons (mC (.int 0)) (mNil)))))))
noncomputable def l_draw : FM := fnM 4 (mSeq (mAsg (mOp fAdd (mOp fIx (mVar 0) (mC (.int 2))) (mC (.int 1))) (gmSub (mVar 0) (mC (.int 2))))
      (mSeq (mIf (mAnd (mTst (mOp fEq (mOp fIx (mVar 0) (mC (.int 1))) (mC (.int 0)))) (mTst (mOp fNe (mOp fIx (mVar 0) (mC (.int 0))) (mLst (mNil))))) (mSeq (mAsg (mBm tyL bPopAt (mOp fIx (mVar 0) (mC (.int 0))) (mCons (mC (.int 0)) (mNil))) (gmSub (mVar 0) (mC (.int 1))))
      (mIf (mTst (mOp fLt (mOp fIx (mVar 0) (mC (.int 1))) (mOp fPow (mC (.int 10)) (mC (.int 18))))) (mSeq (mAsg (mOp fMod (mCallB (pu gInt) (mCons (mOp fAdd (mOp fAdd (mOp fMul (mOp fIx (mVar 0) (mC (.int 3))) (mC (.int 31))) (mOp fIx (mVar 0) (mC (.int 1)))) (mC (.int 7))) (mNil))) (mC (.int 2147483647))) (gmSub (mVar 0) (mC (.int 3))))
      (mAsg (mC (.int 0)) (gmSub (mVar 0) (mC (.int 1))))) (mNext))) (mNext))
      (mSeq (mIf (mTst (mOp fGt (mOp fIx (mVar 0) (mC (.int 1))) (mC (.int 0)))) (mSeq (mSet 3 (mOp fMod (mCallB (pu gInt) (mCons (mOp fIx (mVar 0) (mC (.int 1))) (mNil))) (mVar 1)))
      (mSeq (mAsg (mOp fDiv (mOp fIx (mVar 0) (mC (.int 1))) (mVar 1)) (gmSub (mVar 0) (mC (.int 1))))
      (mRet (mVar 3)))) (mNext))
      (mSeq (mSet 2 (mOp fMod (mOp fPow (mOp fAdd (mOp fAdd (mOp fIx (mVar 0) (mC (.int 3))) (mOp fMul (mC (.int 104729)) (mOp fIx (mVar 0) (mC (.int 2))))) (mC (.int 17))) (mC (.int 5))) (mC (.int 2147483629))))
      (mRet (mOp fMod (mOp fMod (mOp fPow (mOp fAdd (mOp fAdd (mOp fMul (mVar 2) (mC (.int 48271))) (mOp fMul (mOp fMul (mC (.int 40503)) (mOp fIx (mVar 0) (mC (.int 2)))) (mOp fIx (mVar 0) (mC (.int 2))))) (mC (.int 13))) (mC (.int 3))) (mC (.int 1000000007))) (mVar 1)))))))
noncomputable def l_pick : FM := fnM 2 (mRet (mOp fIx (mVar 1) (mCall l_draw (mCons (mVar 0) (mCons (mCallB (pu gLen) (mCons (mVar 1) (mNil))) (mNil))))))
noncomputable def l_name : FM := fnM 3 (mSeq (mSet 1 (mOp fIx (mLst (mCons (mC (.int 1)) (mCons (mC (.int 1)) (mCons (mC (.int 2)) (mCons (mC (.int 3)) (mCons (mC (.int 5)) (mCons (mC (.int 8)) (mNil)))))))) (mCall l_draw (mCons (mVar 0) (mCons (mC (.int 6)) (mNil))))))
      (mRet (mBm tyS bJoin (mC (.str "")) (mCons (mLc (miRng (mCons (mVar 1) (mNil))) [2] (gmName 2) (mYes) (mCall l_pick (mCons (mVar 0) (mCons (mC (.str "abcdefghijklmnopqrstuvwxyz")) (mNil))))) (mNil)))))
noncomputable def l_names : FM := fnM 8 (mSeq (mSet 2 (mLstB (mNil)))
      (mSeq (mFor (miRng (mCons (mVar 1) (mNil))) (gmName 3) (mSeq (mSet 4 (mCall l_name (mCons (mVar 0) (mNil))))
      (mSeq (mSet 5 (mOp fAdd (mLst (mCons (mVar 4) (mNil))) (mLc (miSeq (mC (.str "abcdefgh"))) [6] (gmName 6) (mYes) (mOp fAdd (mOp fAdd (mVar 6) (mC (.str "z"))) (mVar 6)))))
      (mExpr (mBm tyL bAppend (mVar 2) (mCons (mOp fIx (mLc (miSeq (mVar 5)) [7] (gmName 7) (mTst (mOp fNotIn (mVar 7) (mVar 2))) (mVar 7)) (mC (.int 0))) (mNil)))))))
      (mRet (mVar 2))))
noncomputable def l_grid : FM := fnM 4 (mSeq (mSet 1 (mCall l_names (mCons (mVar 0) (mCons (mC (.int 7)) (mNil)))))
      (mSeq (mPar 2 3 (mCons (mSl (mVar 1) (moN) (moS (mCall l_draw (mCons (mVar 0) (mCons (mC (.int 4)) (mNil)))))) (mCons (mSl (mVar 1) (moS (mC (.int 4))) (moS (mOp fAdd (mC (.int 4)) (mCall l_draw (mCons (mVar 0) (mCons (mC (.int 4)) (mNil))))))) (mNil))))
      (mSeq (mIf (mAnd (mTst (mOp fEq (mCall l_draw (mCons (mVar 0) (mCons (mC (.int 2)) (mNil)))) (mC (.int 0)))) (mTst (mOp fNotIn (mC (.str "back")) (mVar 3)))) (mSet 3 (mOp fAdd (mVar 3) (mLst (mCons (mC (.str "back")) (mNil))))) (mNext))
      (mSeq (mIf (mAnd (mTst (mOp fEq (mCall l_draw (mCons (mVar 0) (mCons (mC (.int 4)) (mNil)))) (mC (.int 0)))) (mTst (mOp fNotIn (mC (.str "back")) (mVar 2)))) (mSet 2 (mOp fAdd (mSl (mVar 2) (moN) (moS (mC (.int 2)))) (mLst (mCons (mC (.str "back")) (mNil))))) (mNext))
      (mRet (mTup (mCons (mCallB (pu gSortS) (mCons (mVar 2) (mNil))) (mCons (mCallB (pu gSortS) (mCons (mVar 3) (mNil))) (mNil)))))))))
noncomputable def l_squares : FM := fnM 5 (mSeq (mSet 2 (mLstB (mNil)))
      (mSeq (mFor (miSeq (mVar 0)) (gmName 3) (mExpr (mBm tyL bExtend (mVar 2) (mCons (mLc (miSeq (mVar 1)) [4] (gmName 4) (mYes) (mTup (mCons (mVar 3) (mCons (mVar 4) (mNil))))) (mNil)))))
      (mRet (mVar 2))))
noncomputable def p_is_name : FM := fnM 2 (mRet (mAndV (mIsi (fB ["str"]) (mVar 0)) (mAndV (mChain (cI (fun i j => decide (i ≤ j))) (cI (fun i j => decide (i ≤ j))) (mC (.int 1)) (mCallB (pu gLen) (mCons (mVar 0) (mNil))) (mC (.int 8))) (mCallB (pu gAll) (mCons (mLc (miSeq (mVar 0)) [1] (gmName 1) (mYes) (mOp fIn (mVar 1) (mC (.str "abcdefghijklmnopqrstuvwxyz")))) (mNil))))))
noncomputable def p_sorted_names : FM := fnM 2 (mSeq (mFor (miSeq (mVar 0)) (gmName 1) (mIf (mNot (mTst (mCall p_is_name (mCons (mVar 1) (mNil))))) (mHalt) (mNext)))
      (mRet (mSortSet (mVar 0))))
noncomputable def p_is_list : FM := fnM 1 (mRet (mIsi (fB ["list", "tuple"]) (mVar 0)))
noncomputable def c_Table_known_square : FM := fnM 2 (mSeq (mIf (mOr (mNot (mTst (mCall p_is_list (mCons (mVar 1) (mNil))))) (mTst (mOp fNe (mCallB (pu gLen) (mCons (mVar 1) (mNil))) (mC (.int 2))))) (mHalt) (mNext))
      (mSeq (mIf (mOr (mTst (mOp fNotIn (mOp fIx (mVar 1) (mC (.int 0))) (mFld "Table" "cell_names" (mVar 0)))) (mTst (mOp fNotIn (mOp fIx (mVar 1) (mC (.int 1))) (mFld "Table" "way_names" (mVar 0))))) (mHalt) (mNext))
      (mRet (mTup (mCons (mOp fIx (mVar 1) (mC (.int 0))) (mCons (mOp fIx (mVar 1) (mC (.int 1))) (mNil)))))))
noncomputable def c_Table_init : FM := fnM 5 (mSeq (mFldSet "Table" "cell_names" (mVar 0) (mCall p_sorted_names (mCons (mVar 1) (mNil))))
      (mSeq (mFldSet "Table" "way_names" (mVar 0) (mCall p_sorted_names (mCons (mVar 2) (mNil))))
      (mFldSet "Table" "back" (mVar 0) (mNDc (miSeq (mVar 3)) [4] (gmName 4) (mYes) (mMeth "Table" "known_square" c_Table_known_square (mVar 0) (mCons (mVar 4) (mNil))) (mC (.bl true))))))
noncomputable def c_Table_squares : FM := fnM 1 (mRet (mCallB (pu gSortN) (mCons (mFld "Table" "back" (mVar 0)) (mNil))))
noncomputable def l_some : FM := fnM 3 (mRet (mLc (miSeq (mVar 1)) [2] (gmName 2) (mTst (mOp fEq (mCall l_draw (mCons (mVar 0) (mCons (mC (.int 2)) (mNil)))) (mC (.int 0)))) (mVar 2)))
noncomputable def l_mixed : FM := fnM 4 (mSeq (mSet 2 (mCallB gListB (mCons (mVar 1) (mNil))))
      (mRet (mLcB (miRng (mCons (mCallB (pu gLen) (mCons (mVar 2) (mNil))) (mNil))) [3] (gmName 3) (mYes) (mBm tyL bPopAt (mVar 2) (mCons (mCall l_draw (mCons (mVar 0) (mCons (mCallB (pu gLen) (mCons (mVar 2) (mNil))) (mNil)))) (mNil))))))
noncomputable def l_listed : Nat → FM
  | 0 => fun _ _ => none
  | n + 1 => fnM 4 (mSeq (mIf (mNot (mTst (mIsi (fB ["tuple"]) (mVar 1)))) (mRet (mVar 1)) (mNext))
      (mSeq (mSet 2 (mLcB (miSeq (mVar 1)) [3] (gmName 3) (mYes) (mCall (l_listed n) (mCons (mVar 0) (mCons (mVar 3) (mNil))))))
      (mRet (mIfE (mTst (mOp fEq (mCall l_draw (mCons (mVar 0) (mCons (mC (.int 2)) (mNil)))) (mC (.int 0)))) (mVar 2) (mCallB (pu gTuple) (mCons (mVar 2) (mNil)))))))
noncomputable def l_spoil : Nat → FM
  | 0 => fun _ _ => none
  | n + 1 => fnM 2 (mSeq (mIf (mTst (mIsi (fB ["list", "tuple"]) (mVar 0))) (mFor (miSeq (mCallB (pu gList) (mCons (mVar 0) (mNil)))) (gmName 1) (mExpr (mCall (l_spoil n) (mCons (mVar 1) (mNil))))) (mNext))
      (mIf (mTst (mIsi (fB ["list"]) (mVar 0))) (mExpr (mBm tyL bAppend (mVar 0) (mCons (mC (.int 0)) (mNil)))) (mNext)))
noncomputable def c_Table_cellsB : FM := fnM 1 (mRet (mCallB gListB (mCons (mFld "Table" "cell_names" (mVar 0)) (mNil))))
noncomputable def c_Table_waysB : FM := fnM 1 (mRet (mCallB gListB (mCons (mFld "Table" "way_names" (mVar 0)) (mNil))))
noncomputable def c_Table_squaresB : FM := fnM 1 (mRet (mCallB gSortNB (mCons (mFld "Table" "back" (mVar 0)) (mNil))))
noncomputable def l_made : FM := fnM 9 (mSeq (mSet 4 (mCall l_mixed (mCons (mVar 0) (mCons (mOp fAdd (mVar 1) (mSl (mVar 1) (moN) (moS (mC (.int 1))))) (mNil)))))
      (mSeq (mSet 5 (mCall l_mixed (mCons (mVar 0) (mCons (mOp fAdd (mVar 2) (mSl (mVar 2) (moN) (moS (mC (.int 1))))) (mNil)))))
      (mSeq (mSet 6 (mCall (l_listed 20) (mCons (mVar 0) (mCons (mCallB (pu gTuple) (mCons (mCall l_mixed (mCons (mVar 0) (mCons (mOp fAdd (mVar 3) (mSl (mVar 3) (moN) (moS (mC (.int 1))))) (mNil)))) (mNil))) (mNil)))))
      (mSeq (mSet 7 (mMake "Table" c_Table_init (mCons (mCall (l_listed 20) (mCons (mVar 0) (mCons (mCallB (pu gTuple) (mCons (mVar 4) (mNil))) (mNil)))) (mCons (mVar 5) (mCons (mVar 6) (mNil))))))
      (mSeq (mFor (miSeq (mTup (mCons (mVar 5) (mCons (mVar 6) (mNil))))) (gmName 8) (mExpr (mCall (l_spoil 20) (mCons (mVar 8) (mNil)))))
      (mSeq (mExpr (mBm tyL bAppend (mMeth "Table" "cells" c_Table_cellsB (mVar 7) mNil) (mCons (mC (.str "zz")) (mNil))))
      (mSeq (mExpr (mBm tyL bAppend (mMeth "Table" "ways" c_Table_waysB (mVar 7) mNil) (mCons (mC (.str "zz")) (mNil))))
      (mSeq (mExpr (mBm tyL bAppend (mMeth "Table" "squares" c_Table_squaresB (mVar 7) mNil) (mCons (mTup (mCons (mC (.str "zz")) (mCons (mC (.str "zz")) (mNil)))) (mNil))))
      (mRet (mVar 7))))))))))
noncomputable def c_Table_check : FM := fnM 2 (mIf (mOr (mTst (mOp fNe (mFld "Table" "cell_names" (mVar 0)) (mFld "Table" "cell_names" (mVar 1)))) (mTst (mOp fNe (mFld "Table" "way_names" (mVar 0)) (mFld "Table" "way_names" (mVar 1))))) (mHalt) (mNext))
noncomputable def c_Table_within : FM := fnM 3 (mSeq (mExpr (mMeth "Table" "check" c_Table_check (mVar 0) (mCons (mVar 1) (mNil))))
      (mRet (mCallB (pu gAll) (mCons (mHeldFE 0 "back" (mLc (miKeysN (mFld "Table" "back" (mVar 0))) [2] (gmName 2) (mYes) (mNIn (mVar 2) (mFld "Table" "back" (mVar 1))))) (mNil)))))
noncomputable def l_same : FM := fnM 2 (mRet (mOp fEqT (mCallB (pu gRepr) (mCons (mVar 0) (mNil))) (mCallB (pu gRepr) (mCons (mVar 1) (mNil)))))
noncomputable def c_Table_eq : FM := fnM 3 (mSeq (mIf (mNot (mTst (mIsi isC_Table (mVar 1)))) (mRet (mC (.bl false))) (mNext))
      (mSeq (mSet 2 (mAndV (mOp fEq (mFld "Table" "cell_names" (mVar 0)) (mFld "Table" "cell_names" (mVar 1))) (mOp fEq (mFld "Table" "way_names" (mVar 0)) (mFld "Table" "way_names" (mVar 1)))))
      (mRet (mAndV (mVar 2) (mOp fEq (mMeth "Table" "squares" c_Table_squares (mVar 0) mNil) (mMeth "Table" "squares" c_Table_squares (mVar 1) mNil))))))
noncomputable def l_compared : FM := fnM 9 (mSeq (mFor (miZip (mCons (mVar 0) (mCons (mVar 1) (mNil)))) (gmTup (gmCons (gmName 2) (gmCons (gmName 3) (gmNil)))) (mFor (miZip (mCons (mVar 0) (mCons (mVar 1) (mNil)))) (gmTup (gmCons (gmName 4) (gmCons (gmName 5) (gmNil)))) (mSeq (mSet 6 (mLst (mCons (mEqO "Table" okE_Table c_Table_eq (mVar 2) (mVar 4)) (mCons (mNeO "Table" okE_Table c_Table_eq (mVar 2) (mVar 4)) (mCons (mMeth "Table" "within" c_Table_within (mVar 2) (mCons (mVar 4) (mNil))) (mNil))))))
      (mSeq (mSet 7 (mCallB (pu gAll) (mCons (mLc (miSeq (mVar 3)) [8] (gmName 8) (mYes) (mOp fInD (mVar 8) (mVar 5))) (mNil))))
      (mIf (mNot (mTst (mCall l_same (mCons (mVar 6) (mCons (mLst (mCons (mOp fEq (mVar 3) (mVar 5)) (mCons (mOp fNe (mVar 3) (mVar 5)) (mCons (mVar 7) (mNil))))) (mNil)))))) (mRet (mC (.bl false))) (mNext))))))
      (mRet (mC (.bl true))))
noncomputable def l_united : Nat → FM
  | 0 => fun _ _ => none
  | n + 1 => fnM 5 (mSeq (mIf (mTst (mOp fEq (mVar 0) (mC (.int 0)))) (mSeq (mSet 3 (mLc (miSeq (mVar 2)) [4] (gmName 4) (mTst (mOp fNotInD (mVar 4) (mVar 1))) (mVar 4)))
      (mRet (mCallB (pu gSortP) (mCons (mOp fAdd (mVar 1) (mVar 3)) (mNil))))) (mNext))
      (mSeq (mIf (mTst (mOp fEq (mVar 0) (mC (.int 1)))) (mRet (mLc (miSeq (mVar 1)) [4] (gmName 4) (mTst (mOp fInD (mVar 4) (mVar 2))) (mVar 4))) (mNext))
      (mSeq (mIf (mTst (mOp fEq (mVar 0) (mC (.int 2)))) (mRet (mLc (miSeq (mVar 1)) [4] (gmName 4) (mTst (mOp fNotInD (mVar 4) (mVar 2))) (mVar 4))) (mNext))
      (mRet (mCall (l_united n) (mCons (mC (.int 0)) (mCons (mCall (l_united n) (mCons (mC (.int 2)) (mCons (mVar 1) (mCons (mVar 2) (mNil))))) (mCons (mCall (l_united n) (mCons (mC (.int 2)) (mCons (mVar 2) (mCons (mVar 1) (mNil))))) (mNil)))))))))
noncomputable def c_Table_put_square : FM := fnM 3 (mIf (mTst (mVar 2)) (mNPut (mC (.bl true)) (mFld "Table" "back" (mVar 0)) (mVar 1)) (mExpr (mNPop (mFld "Table" "back" (mVar 0)) (mVar 1) (mC .non))))
noncomputable def c_Table_setitem : FM := fnM 4 (mSeq (mSet 3 (mMeth "Table" "known_square" c_Table_known_square (mVar 0) (mCons (mVar 1) (mNil))))
      (mSeq (mIf (mAnd (mTst (mOp fNotB (mVar 2) (mC (.bl true)))) (mTst (mOp fNotB (mVar 2) (mC (.bl false))))) (mHalt) (mNext))
      (mExpr (mMeth "Table" "put_square" c_Table_put_square (mVar 0) (mCons (mVar 3) (mCons (mVar 2) (mNil)))))))
noncomputable def c_Table_other_table : FM := fnM 2 (mRet (mMake "Table" c_Table_init (mCons (mFld "Table" "cell_names" (mVar 0)) (mCons (mFld "Table" "way_names" (mVar 0)) (mCons (mVar 1) (mNil))))))
noncomputable def c_Table_twin : FM := fnM 1 (mRet (mMeth "Table" "other_table" c_Table_other_table (mVar 0) (mCons (mMeth "Table" "squares" c_Table_squares (mVar 0) mNil) (mNil))))
noncomputable def c_Table_or : FM := fnM 2 (mSeq (mExpr (mMeth "Table" "check" c_Table_check (mVar 0) (mCons (mVar 1) (mNil))))
      (mRet (mMeth "Table" "other_table" c_Table_other_table (mVar 0) (mCons (mOp fAdd (mMeth "Table" "squares" c_Table_squares (mVar 0) mNil) (mMeth "Table" "squares" c_Table_squares (mVar 1) mNil)) (mNil)))))
noncomputable def c_Table_and : FM := fnM 3 (mSeq (mExpr (mMeth "Table" "check" c_Table_check (mVar 0) (mCons (mVar 1) (mNil))))
      (mRet (mMeth "Table" "other_table" c_Table_other_table (mVar 0) (mCons (mLc (miSeq (mMeth "Table" "squares" c_Table_squares (mVar 0) mNil)) [2] (gmName 2) (mTst (mNIn (mVar 2) (mFld "Table" "back" (mVar 1)))) (mVar 2)) (mNil)))))
noncomputable def c_Table_sub : FM := fnM 3 (mSeq (mExpr (mMeth "Table" "check" c_Table_check (mVar 0) (mCons (mVar 1) (mNil))))
      (mRet (mMeth "Table" "other_table" c_Table_other_table (mVar 0) (mCons (mLc (miSeq (mMeth "Table" "squares" c_Table_squares (mVar 0) mNil)) [2] (gmName 2) (mTst (mNNotIn (mVar 2) (mFld "Table" "back" (mVar 1)))) (mVar 2)) (mNil)))))
noncomputable def c_Table_xor : FM := fnM 2 (mRet (mBinO "Table" c_Table_or (mBinO "Table" c_Table_sub (mVar 0) (mVar 1)) (mBinO "Table" c_Table_sub (mVar 1) (mVar 0))))
noncomputable def l_signed : FM := fnM 3 (mSeq (mIf (mTst (mOp fEq (mVar 0) (mC (.int 0)))) (mRet (mBinO "Table" c_Table_or (mVar 1) (mVar 2))) (mNext))
      (mSeq (mIf (mTst (mOp fEq (mVar 0) (mC (.int 1)))) (mRet (mBinO "Table" c_Table_and (mVar 1) (mVar 2))) (mNext))
      (mRet (mIfE (mTst (mOp fEq (mVar 0) (mC (.int 2)))) (mBinO "Table" c_Table_sub (mVar 1) (mVar 2)) (mBinO "Table" c_Table_xor (mVar 1) (mVar 2))))))
noncomputable def c_Table_become : FM := fnM 3 (mSeq (mFldSet "Table" "back" (mVar 0) (mNDc (miSeq (mMeth "Table" "squares" c_Table_squares (mVar 1) mNil)) [2] (gmName 2) (mYes) (mVar 2) (mC (.bl true))))
      (mRet (mVar 0)))
noncomputable def c_Table_ior : FM := fnM 2 (mRet (mMeth "Table" "become" c_Table_become (mVar 0) (mCons (mBinO "Table" c_Table_or (mVar 0) (mVar 1)) (mNil))))
noncomputable def c_Table_iand : FM := fnM 2 (mRet (mMeth "Table" "become" c_Table_become (mVar 0) (mCons (mBinO "Table" c_Table_and (mVar 0) (mVar 1)) (mNil))))
noncomputable def c_Table_isub : FM := fnM 2 (mRet (mMeth "Table" "become" c_Table_become (mVar 0) (mCons (mBinO "Table" c_Table_sub (mVar 0) (mVar 1)) (mNil))))
noncomputable def c_Table_ixor : FM := fnM 2 (mRet (mMeth "Table" "become" c_Table_become (mVar 0) (mCons (mBinO "Table" c_Table_xor (mVar 0) (mVar 1)) (mNil))))
noncomputable def l_in_place : FM := fnM 3 (mSeq (mIf (mTst (mOp fEq (mVar 0) (mC (.int 0)))) (mAugI 1 "Table" c_Table_ior (mVar 2)) (mIf (mTst (mOp fEq (mVar 0) (mC (.int 1)))) (mAugI 1 "Table" c_Table_iand (mVar 2)) (mIf (mTst (mOp fEq (mVar 0) (mC (.int 2)))) (mAugI 1 "Table" c_Table_isub (mVar 2)) (mAugI 1 "Table" c_Table_ixor (mVar 2)))))
      (mRet (mVar 1)))
noncomputable def l_deed : FM := fnM 14 (mSeq (mPar3 5 6 7 (mCons (mCall l_draw (mCons (mVar 0) (mCons (mC (.int 3)) (mNil)))) (mCons (mCall l_draw (mCons (mVar 0) (mCons (mC (.int 3)) (mNil)))) (mCons (mCall l_draw (mCons (mVar 0) (mCons (mC (.int 4)) (mNil)))) (mNil)))))
      (mSeq (mSet 4 (mCall l_draw (mCons (mVar 0) (mCons (mC (.int 4)) (mNil)))))
      (mSeq (mIf (mAnd (mTst (mOp fEq (mVar 4) (mC (.int 0)))) (mTst (mOp (fNil true) (mVar 3) (mLst (mNil))))) (mSeq (mAsg (mTup (mCons (mCall l_pick (mCons (mVar 0) (mCons (mVar 3) (mNil)))) (mCons (mOp fEq (mCall l_draw (mCons (mVar 0) (mCons (mC (.int 2)) (mNil)))) (mC (.int 0))) (mNil)))) (gmTup (gmCons (gmTup (gmCons (gmName 11) (gmCons (gmName 12) (gmNil)))) (gmCons (gmName 8) (gmNil)))))
      (mSeq (mPar 9 7 (mCons (mOp fIx (mVar 1) (mVar 5)) (mCons (mCall l_draw (mCons (mVar 0) (mCons (mC (.int 2)) (mNil)))) (mNil))))
      (mSeq (mIf (mTst (mOp fEq (mVar 7) (mC (.int 0)))) (mItSet "Table" c_Table_setitem (mVar 8) (mVar 9) (mTup (mCons (mVar 11) (mCons (mVar 12) (mNil))))) (mSeq (mSet 10 (mLst (mCons (mVar 11) (mCons (mVar 12) (mNil)))))
      (mItSet "Table" c_Table_setitem (mVar 8) (mVar 9) (mVar 10))))
      (mAsg (mCall (l_united 20) (mCons (mIfE (mTst (mVar 8)) (mC (.int 0)) (mC (.int 2))) (mCons (mOp fIx (mVar 2) (mVar 5)) (mCons (mLst (mCons (mTup (mCons (mVar 11) (mCons (mVar 12) (mNil)))) (mNil))) (mNil))))) (gmSub (mVar 2) (mVar 5)))))) (mIf (mTst (mOp fEq (mVar 4) (mC (.int 1)))) (mSeq (mAsg (mMeth "Table" "twin" c_Table_twin (mOp fIx (mVar 1) (mVar 6)) mNil) (gmSub (mVar 1) (mVar 5)))
      (mAsg (mOp fIx (mVar 2) (mVar 6)) (gmSub (mVar 2) (mVar 5)))) (mIf (mTst (mOp fEq (mVar 4) (mC (.int 2)))) (mSeq (mAsg (mCall l_signed (mCons (mVar 7) (mCons (mOp fIx (mVar 1) (mVar 6)) (mCons (mOp fIx (mVar 1) (mVar 5)) (mNil))))) (gmSub (mVar 1) (mVar 5)))
      (mAsg (mCall (l_united 20) (mCons (mVar 7) (mCons (mOp fIx (mVar 2) (mVar 6)) (mCons (mOp fIx (mVar 2) (mVar 5)) (mNil))))) (gmSub (mVar 2) (mVar 5)))) (mSeq (mSet 13 (mOp fIx (mVar 1) (mVar 5)))
      (mSeq (mAsg (mCall l_in_place (mCons (mVar 7) (mCons (mOp fIx (mVar 1) (mVar 5)) (mCons (mOp fIx (mVar 1) (mVar 6)) (mNil))))) (gmSub (mVar 1) (mVar 5)))
      (mSeq (mAsg (mCall (l_united 20) (mCons (mVar 7) (mCons (mOp fIx (mVar 2) (mVar 5)) (mCons (mOp fIx (mVar 2) (mVar 6)) (mNil))))) (gmSub (mVar 2) (mVar 5)))
      (mRet (mOp fEq (mMeth "Table" "squares" c_Table_squares (mVar 13) mNil) (mOp fIx (mVar 2) (mVar 5))))))))))
      (mRet (mC (.bl true))))))
noncomputable def c_Table_cells : FM := fnM 1 (mRet (mCallB (pu gList) (mCons (mFld "Table" "cell_names" (mVar 0)) (mNil))))
noncomputable def c_Table_ways : FM := fnM 1 (mRet (mCallB (pu gList) (mCons (mFld "Table" "way_names" (mVar 0)) (mNil))))
noncomputable def c_Table_getitem : FM := fnM 2 (mRet (mNIn (mMeth "Table" "known_square" c_Table_known_square (mVar 0) (mCons (mVar 1) (mNil))) (mFld "Table" "back" (mVar 0))))
noncomputable def c_Table_contains : FM := fnM 3 (mRet (mAndV (mCall p_is_list (mCons (mVar 1) (mNil))) (mCallB (pu gAny) (mCons (mHeldFE 0 "back" (mLc (miKeysN (mFld "Table" "back" (mVar 0))) [2] (gmName 2) (mYes) (mOp fEq (mCallB (pu gTuple) (mCons (mVar 1) (mNil))) (mVar 2)))) (mNil)))))
noncomputable def c_Table_len : FM := fnM 1 (mRet (mCallB (pu gLenN) (mCons (mFld "Table" "back" (mVar 0)) (mNil))))
noncomputable def l_table_shows : FM := fnM 9 (mSeq (mSet 4 (mLst (mCons (mMeth "Table" "cells" c_Table_cells (mVar 0) mNil) (mCons (mMeth "Table" "ways" c_Table_ways (mVar 0) mNil) (mCons (mMeth "Table" "squares" c_Table_squares (mVar 0) mNil) (mCons (mLenO "Table" c_Table_len (mVar 0)) (mNil)))))))
      (mSeq (mIf (mNot (mTst (mCall l_same (mCons (mVar 4) (mCons (mLst (mCons (mVar 1) (mCons (mVar 2) (mCons (mVar 3) (mCons (mCallB (pu gLen) (mCons (mVar 3) (mNil))) (mNil)))))) (mNil)))))) (mRet (mC (.bl false))) (mNext))
      (mSeq (mFor (miSeq (mCall l_squares (mCons (mVar 1) (mCons (mVar 2) (mNil))))) (gmName 5) (mSeq (mAsg (mVar 5) (gmTup (gmCons (gmName 7) (gmCons (gmName 8) (gmNil)))))
      (mSeq (mSet 6 (mLst (mCons (mVar 7) (mCons (mVar 8) (mNil)))))
      (mSeq (mSet 4 (mLst (mCons (mItO "Table" c_Table_getitem (mVar 0) (mTup (mCons (mVar 7) (mCons (mVar 8) (mNil))))) (mCons (mItO "Table" c_Table_getitem (mVar 0) (mVar 6)) (mNil)))))
      (mSeq (mSet 4 (mOp fAdd (mVar 4) (mLst (mCons (mInO "Table" c_Table_contains (mVar 5) (mVar 0)) (mCons (mInO "Table" c_Table_contains (mVar 6) (mVar 0)) (mNil))))))
      (mIf (mNot (mTst (mCall l_same (mCons (mVar 4) (mCons (mOp fMulL (mLst (mCons (mOp fInD (mVar 5) (mVar 3)) (mNil))) (mC (.int 4))) (mNil)))))) (mRet (mC (.bl false))) (mNext)))))))
      (mRet (mC (.bl true))))))
noncomputable def law_ : FM := fnM 20 (mSeq (mSet 1 (mCall l_start (mCons (mVar 0) (mNil))))
      (mSeq (mFor (miRng (mCons (mC (.int 3)) (mNil))) (gmName 2) (mSeq (mAsg (mCall l_grid (mCons (mVar 1) (mNil))) (gmTup (gmCons (gmName 12) (gmCons (gmName 13) (gmNil)))))
      (mSeq (mSet 3 (mCall l_squares (mCons (mVar 12) (mCons (mVar 13) (mNil)))))
      (mSeq (mSet 4 (mLcB (miRng (mCons (mC (.int 3)) (mNil))) [14] (gmName 14) (mYes) (mCall l_some (mCons (mVar 1) (mCons (mVar 3) (mNil))))))
      (mSeq (mSet 5 (mLcB (miSeq (mVar 4)) [15] (gmName 15) (mYes) (mCall l_made (mCons (mVar 1) (mCons (mVar 12) (mCons (mVar 13) (mCons (mVar 15) (mNil))))))))
      (mSeq (mFor (miRng (mCons (mC (.int 10)) (mNil))) (gmName 6) (mSeq (mFor (miZip (mCons (mVar 5) (mCons (mVar 4) (mNil)))) (gmTup (gmCons (gmName 16) (gmCons (gmName 15) (gmNil)))) (mIf (mNot (mTst (mCall l_table_shows (mCons (mVar 16) (mCons (mVar 12) (mCons (mVar 13) (mCons (mVar 15) (mNil)))))))) (mRet (mC (.bl false))) (mNext)))
      (mSeq (mIf (mNot (mTst (mCall l_compared (mCons (mVar 5) (mCons (mVar 4) (mNil)))))) (mRet (mC (.bl false))) (mNext))
      (mIf (mNot (mTst (mCall l_deed (mCons (mVar 1) (mCons (mVar 5) (mCons (mVar 4) (mCons (mVar 3) (mNil)))))))) (mRet (mC (.bl false))) (mNext)))))
      (mSeq (mSet 7 (mLc (miSeq (mLst (mCons (mC (.str "zw")) (mCons (mC (.str "zx")) (mCons (mC (.str "zy")) (mCons (mC (.str "zz")) (mNil))))))) [17] (gmName 17) (mTst (mOp fNotIn (mVar 17) (mVar 12))) (mVar 17)))
      (mSeq (mSet 8 (mMake "Table" c_Table_init (mCons (mOp fAdd (mVar 12) (mSl (mVar 7) (moN) (moS (mC (.int 1))))) (mCons (mVar 13) (mCons (mOp fIx (mVar 4) (mC (.int 0))) (mNil))))))
      (mSeq (mIf (mOr (mTst (mEqO "Table" okE_Table c_Table_eq (mVar 8) (mOp fIx (mVar 5) (mC (.int 0))))) (mNot (mTst (mNeO "Table" okE_Table c_Table_eq (mOp fIx (mVar 5) (mC (.int 0))) (mVar 8))))) (mRet (mC (.bl false))) (mNext))
      (mSeq (mSet 9 (mLc (miSeq (mSl (mVar 13) (moN) (moS (mC (.int 1))))) [18] (gmName 18) (mTst (mOp fNotIn (mVar 18) (mVar 12))) (mVar 18)))
      (mSeq (mSet 10 (mTup (mCons (mMake "Table" (fun ds => c_Table_init (ds ++ [.tup []])) (mCons (mOp fAdd (mVar 12) (mVar 9)) (mCons (mSl (mVar 13) (moS (mCallB (pu gLen) (mCons (mVar 9) (mNil)))) (moN)) (mNil)))) (mCons (mMake "Table" (fun ds => c_Table_init (ds ++ [.tup []])) (mCons (mVar 12) (mCons (mVar 13) (mNil)))) (mNil)))))
      (mSeq (mIf (mAnd (mTst (mOp (fNil true) (mVar 9) (mLst (mNil)))) (mOr (mTst (mEqO "Table" okE_Table c_Table_eq (mOp fIx (mVar 10) (mC (.int 0))) (mOp fIx (mVar 10) (mC (.int 1))))) (mNot (mTst (mNeO "Table" okE_Table c_Table_eq (mOp fIx (mVar 10) (mC (.int 1))) (mOp fIx (mVar 10) (mC (.int 0)))))))) (mRet (mC (.bl false))) (mNext))
      (mSeq (mSet 11 (mLst (mCons (mOp fIx (mVar 4) (mC (.int 0))) (mCons (mCallB (pu gTuple) (mCons (mOp fIx (mVar 4) (mC (.int 0))) (mNil))) (mCons (mVar 3) (mCons (mC .non) (mCons (mC (.bl true)) (mNil))))))))
      (mIf (mTst (mCallB (pu gAny) (mCons (mLc (miSeq (mVar 11)) [19] (gmName 19) (mYes) (mEqO "Table" okE_Table c_Table_eq (mOp fIx (mVar 5) (mC (.int 0))) (mVar 19))) (mNil)))) (mRet (mC (.bl false))) (mNext)))))))))))))))
      (mSeq (mIf (mOr (mTst (mEqO "Table" okE_Table c_Table_eq (mMake "Table" (fun ds => c_Table_init (ds ++ [.tup []])) (mCons (mLst (mCons (mC (.str "a")) (mNil))) (mCons (mLst (mCons (mC (.str "b")) (mNil))) (mNil)))) (mMake "Table" (fun ds => c_Table_init (ds ++ [.tup []])) (mCons (mLst (mCons (mC (.str "a")) (mCons (mC (.str "b")) (mNil)))) (mCons (mLst (mNil)) (mNil)))))) (mTst (mEqO "Table" okE_Table c_Table_eq (mMake "Table" (fun ds => c_Table_init (ds ++ [.tup []])) (mCons (mLst (mCons (mC (.str "a")) (mNil))) (mCons (mLst (mCons (mC (.str "b")) (mCons (mC (.str "c")) (mNil)))) (mNil)))) (mMake "Table" (fun ds => c_Table_init (ds ++ [.tup []])) (mCons (mLst (mCons (mC (.str "a")) (mCons (mC (.str "b")) (mNil)))) (mCons (mLst (mCons (mC (.str "c")) (mNil))) (mNil))))))) (mRet (mC (.bl false))) (mNext))
      (mRet (mOp (fNil false) (mMeth "Table" "squares" c_Table_squares (mMake "Table" (fun ds => c_Table_init (ds ++ [.tup []])) (mCons (mLst (mCons (mC (.str "b")) (mNil))) (mCons (mLst (mCons (mC (.str "a")) (mNil))) (mNil)))) mNil) (mLst (mNil)))))))
end MP

set_option Elab.async false
set_option linter.all false
set_option maxRecDepth 100000
set_option maxHeartbeats 4000000
namespace MP
variable [Wd]
open PySem L2
/-! the facts of law_k38_tables_as_sets -/
def fa0 : List He.Fa := [.glo "law", .cls "Table", .meth "Table" "__getitem__", .meth "Table" "__setitem__", .free "list", .free "int", .free "len", .glo "_law_draw", .free "range", .glo "_law_pick", .glo "_law_name", .glo "_law_names", .free "sorted", .free "str", .free "isinstance", .str "LETTERS" "abcdefghijklmnopqrstuvwxyz", .free "all", .glo "is_name", .free "set", .free "tuple", .glo "is_list", .noat "Table" "cell_names", .noat "Table" "way_names", .glo "sorted_names", .meth "Table" "known_square", .noat "Table" "back", .glo "_law_listed", .glo "_law_spoil", .glo "_law_mixed", .mkr "Table", .glo "Table", .meth "Table" "cells", .meth "Table" "ways", .meth "Table" "squares", .meth "Table" "check", .free "repr", .free "zip", .meth "Table" "__eq__", .meth "Table" "within", .glo "_law_same", .glo "_law_united", .meth "Table" "put_square", .meth "Table" "other_table", .meth "Table" "__sub__", .meth "Table" "__or__", .meth "Table" "__and__", .meth "Table" "__xor__", .meth "Table" "become", .meth "Table" "__ior__", .meth "Table" "__iand__", .meth "Table" "__isub__", .meth "Table" "__ixor__", .meth "Table" "twin", .glo "_law_signed", .glo "_law_in_place", .free "any", .meth "Table" "__len__", .glo "_law_squares", .meth "Table" "__contains__", .glo "_law_start", .glo "_law_grid", .glo "_law_some", .glo "_law_made", .glo "_law_table_shows", .glo "_law_compared", .glo "_law_deed"]
def d_l_start : He.DefD := ⟨("_law_start", none), "_law_start", "_law_start", defArgs s_l_start, defBody s_l_start, defScope s_l_start, [], []⟩
def d_l_draw : He.DefD := ⟨("_law_draw", none), "_law_draw", "_law_draw", defArgs s_l_draw, defBody s_l_draw, defScope s_l_draw, [], []⟩
def d_l_pick : He.DefD := ⟨("_law_pick", none), "_law_pick", "_law_pick", defArgs s_l_pick, defBody s_l_pick, defScope s_l_pick, [], []⟩
def d_l_name : He.DefD := ⟨("_law_name", none), "_law_name", "_law_name", defArgs s_l_name, defBody s_l_name, defScope s_l_name, [], []⟩
def d_l_names : He.DefD := ⟨("_law_names", none), "_law_names", "_law_names", defArgs s_l_names, defBody s_l_names, defScope s_l_names, [], []⟩
def d_l_grid : He.DefD := ⟨("_law_grid", none), "_law_grid", "_law_grid", defArgs s_l_grid, defBody s_l_grid, defScope s_l_grid, [], []⟩
def d_l_squares : He.DefD := ⟨("_law_squares", none), "_law_squares", "_law_squares", defArgs s_l_squares, defBody s_l_squares, defScope s_l_squares, [], []⟩
def d_p_is_name : He.DefD := ⟨("is_name", none), "is_name", "is_name", defArgs s_p_is_name, defBody s_p_is_name, defScope s_p_is_name, [], []⟩
def d_p_sorted_names : He.DefD := ⟨("sorted_names", none), "sorted_names", "sorted_names", defArgs s_p_sorted_names, defBody s_p_sorted_names, defScope s_p_sorted_names, [], []⟩
def d_p_is_list : He.DefD := ⟨("is_list", none), "is_list", "is_list", defArgs s_p_is_list, defBody s_p_is_list, defScope s_p_is_list, [], []⟩
def d_c_Table_known_square : He.DefD := ⟨("Table", some "known_square"), "known_square", "Table.known_square", defArgs s_c_Table_known_square, defBody s_c_Table_known_square, defScope s_c_Table_known_square, [], []⟩
def d_c_Table_init : He.DefD := ⟨("Table", some "__init__"), "__init__", "Table.__init__", defArgs s_c_Table_init, defBody s_c_Table_init, defScope s_c_Table_init, [.adr (He.dflAt ("Table", some "__init__") 0)], []⟩
def d_c_Table_squares : He.DefD := ⟨("Table", some "squares"), "squares", "Table.squares", defArgs s_c_Table_squares, defBody s_c_Table_squares, defScope s_c_Table_squares, [], []⟩
def d_l_some : He.DefD := ⟨("_law_some", none), "_law_some", "_law_some", defArgs s_l_some, defBody s_l_some, defScope s_l_some, [], []⟩
def d_l_mixed : He.DefD := ⟨("_law_mixed", none), "_law_mixed", "_law_mixed", defArgs s_l_mixed, defBody s_l_mixed, defScope s_l_mixed, [], []⟩
def d_l_listed : He.DefD := ⟨("_law_listed", none), "_law_listed", "_law_listed", defArgs s_l_listed, defBody s_l_listed, defScope s_l_listed, [], []⟩
def d_l_spoil : He.DefD := ⟨("_law_spoil", none), "_law_spoil", "_law_spoil", defArgs s_l_spoil, defBody s_l_spoil, defScope s_l_spoil, [], []⟩
def d_c_Table_cellsB : He.DefD := ⟨("Table", some "cells"), "cells", "Table.cells", defArgs s_c_Table_cellsB, defBody s_c_Table_cellsB, defScope s_c_Table_cellsB, [], []⟩
def d_c_Table_waysB : He.DefD := ⟨("Table", some "ways"), "ways", "Table.ways", defArgs s_c_Table_waysB, defBody s_c_Table_waysB, defScope s_c_Table_waysB, [], []⟩
def d_c_Table_squaresB : He.DefD := ⟨("Table", some "squares"), "squares", "Table.squares", defArgs s_c_Table_squaresB, defBody s_c_Table_squaresB, defScope s_c_Table_squaresB, [], []⟩
def d_l_made : He.DefD := ⟨("_law_made", none), "_law_made", "_law_made", defArgs s_l_made, defBody s_l_made, defScope s_l_made, [], []⟩
def d_c_Table_check : He.DefD := ⟨("Table", some "check"), "check", "Table.check", defArgs s_c_Table_check, defBody s_c_Table_check, defScope s_c_Table_check, [], []⟩
def d_c_Table_within : He.DefD := ⟨("Table", some "within"), "within", "Table.within", defArgs s_c_Table_within, defBody s_c_Table_within, defScope s_c_Table_within, [], []⟩
def d_l_same : He.DefD := ⟨("_law_same", none), "_law_same", "_law_same", defArgs s_l_same, defBody s_l_same, defScope s_l_same, [], []⟩
def d_c_Table_eq : He.DefD := ⟨("Table", some "__eq__"), "__eq__", "Table.__eq__", defArgs s_c_Table_eq, defBody s_c_Table_eq, defScope s_c_Table_eq, [], []⟩
def d_l_compared : He.DefD := ⟨("_law_compared", none), "_law_compared", "_law_compared", defArgs s_l_compared, defBody s_l_compared, defScope s_l_compared, [], []⟩
def d_l_united : He.DefD := ⟨("_law_united", none), "_law_united", "_law_united", defArgs s_l_united, defBody s_l_united, defScope s_l_united, [], []⟩
def d_c_Table_put_square : He.DefD := ⟨("Table", some "put_square"), "put_square", "Table.put_square", defArgs s_c_Table_put_square, defBody s_c_Table_put_square, defScope s_c_Table_put_square, [], []⟩
def d_c_Table_setitem : He.DefD := ⟨("Table", some "__setitem__"), "__setitem__", "Table.__setitem__", defArgs s_c_Table_setitem, defBody s_c_Table_setitem, defScope s_c_Table_setitem, [], []⟩
def d_c_Table_other_table : He.DefD := ⟨("Table", some "other_table"), "other_table", "Table.other_table", defArgs s_c_Table_other_table, defBody s_c_Table_other_table, defScope s_c_Table_other_table, [], []⟩
def d_c_Table_twin : He.DefD := ⟨("Table", some "twin"), "twin", "Table.twin", defArgs s_c_Table_twin, defBody s_c_Table_twin, defScope s_c_Table_twin, [], []⟩
def d_c_Table_or : He.DefD := ⟨("Table", some "__or__"), "__or__", "Table.__or__", defArgs s_c_Table_or, defBody s_c_Table_or, defScope s_c_Table_or, [], []⟩
def d_c_Table_and : He.DefD := ⟨("Table", some "__and__"), "__and__", "Table.__and__", defArgs s_c_Table_and, defBody s_c_Table_and, defScope s_c_Table_and, [], []⟩
def d_c_Table_sub : He.DefD := ⟨("Table", some "__sub__"), "__sub__", "Table.__sub__", defArgs s_c_Table_sub, defBody s_c_Table_sub, defScope s_c_Table_sub, [], []⟩
def d_c_Table_xor : He.DefD := ⟨("Table", some "__xor__"), "__xor__", "Table.__xor__", defArgs s_c_Table_xor, defBody s_c_Table_xor, defScope s_c_Table_xor, [], []⟩
def d_l_signed : He.DefD := ⟨("_law_signed", none), "_law_signed", "_law_signed", defArgs s_l_signed, defBody s_l_signed, defScope s_l_signed, [], []⟩
def d_c_Table_become : He.DefD := ⟨("Table", some "become"), "become", "Table.become", defArgs s_c_Table_become, defBody s_c_Table_become, defScope s_c_Table_become, [], []⟩
def d_c_Table_ior : He.DefD := ⟨("Table", some "__ior__"), "__ior__", "Table.__ior__", defArgs s_c_Table_ior, defBody s_c_Table_ior, defScope s_c_Table_ior, [], []⟩
def d_c_Table_iand : He.DefD := ⟨("Table", some "__iand__"), "__iand__", "Table.__iand__", defArgs s_c_Table_iand, defBody s_c_Table_iand, defScope s_c_Table_iand, [], []⟩
def d_c_Table_isub : He.DefD := ⟨("Table", some "__isub__"), "__isub__", "Table.__isub__", defArgs s_c_Table_isub, defBody s_c_Table_isub, defScope s_c_Table_isub, [], []⟩
def d_c_Table_ixor : He.DefD := ⟨("Table", some "__ixor__"), "__ixor__", "Table.__ixor__", defArgs s_c_Table_ixor, defBody s_c_Table_ixor, defScope s_c_Table_ixor, [], []⟩
def d_l_in_place : He.DefD := ⟨("_law_in_place", none), "_law_in_place", "_law_in_place", defArgs s_l_in_place, defBody s_l_in_place, defScope s_l_in_place, [], []⟩
def d_l_deed : He.DefD := ⟨("_law_deed", none), "_law_deed", "_law_deed", defArgs s_l_deed, defBody s_l_deed, defScope s_l_deed, [], []⟩
def d_c_Table_cells : He.DefD := ⟨("Table", some "cells"), "cells", "Table.cells", defArgs s_c_Table_cells, defBody s_c_Table_cells, defScope s_c_Table_cells, [], []⟩
def d_c_Table_ways : He.DefD := ⟨("Table", some "ways"), "ways", "Table.ways", defArgs s_c_Table_ways, defBody s_c_Table_ways, defScope s_c_Table_ways, [], []⟩
def d_c_Table_getitem : He.DefD := ⟨("Table", some "__getitem__"), "__getitem__", "Table.__getitem__", defArgs s_c_Table_getitem, defBody s_c_Table_getitem, defScope s_c_Table_getitem, [], []⟩
def d_c_Table_contains : He.DefD := ⟨("Table", some "__contains__"), "__contains__", "Table.__contains__", defArgs s_c_Table_contains, defBody s_c_Table_contains, defScope s_c_Table_contains, [], []⟩
def d_c_Table_len : He.DefD := ⟨("Table", some "__len__"), "__len__", "Table.__len__", defArgs s_c_Table_len, defBody s_c_Table_len, defScope s_c_Table_len, [], []⟩
def d_l_table_shows : He.DefD := ⟨("_law_table_shows", none), "_law_table_shows", "_law_table_shows", defArgs s_l_table_shows, defBody s_l_table_shows, defScope s_l_table_shows, [], []⟩
def d_law_ : He.DefD := ⟨("law", none), "law", "law", defArgs s_law_, defBody s_law_, defScope s_law_, [], []⟩
def fn0 : List He.DefD := [d_l_start, d_l_draw, d_l_pick, d_l_name, d_l_names, d_l_grid, d_l_squares, d_p_is_name, d_p_sorted_names, d_p_is_list, d_c_Table_known_square, d_c_Table_init, d_c_Table_squares, d_l_some, d_l_mixed, d_l_listed, d_l_spoil, d_c_Table_cellsB, d_c_Table_waysB, d_c_Table_squaresB] ++ [d_l_made, d_c_Table_check, d_c_Table_within, d_l_same, d_c_Table_eq, d_l_compared, d_l_united, d_c_Table_put_square, d_c_Table_setitem, d_c_Table_other_table, d_c_Table_twin, d_c_Table_or, d_c_Table_and, d_c_Table_sub, d_c_Table_xor, d_l_signed, d_c_Table_become, d_c_Table_ior, d_c_Table_iand, d_c_Table_isub] ++ [d_c_Table_ixor, d_l_in_place, d_l_deed, d_c_Table_cells, d_c_Table_ways, d_c_Table_getitem, d_c_Table_contains, d_c_Table_len, d_l_table_shows, d_law_]
def ts0 : List He.Tab := []
def ex0 (K : PySem.W.Frag) : Bool := etupB K (He.dflAt ("Table", some "__init__") 0 K) && (itmB K "Table" "__getitem__" && (itmB K "Table" "__setitem__" && (ownB K "Table" && (twoB K (He.ga K "Table") && (true)))))
abbrev SYk (w : World) (K : PySem.W.Frag) (mg : Str → Option Value) : Prop := SY fa0 fn0 ts0 ex0 w K mg
section
variable {w : World} {K : PySem.W.Frag} {mg : Str → Option Value}
theorem SY.ex_0 (S : SYk w K mg) : (etupB K (He.dflAt ("Table", some "__init__") 0 K)) = true := And.left (He.ba S.more)
theorem SY.dfl_c_Table_init (S : SYk w K mg) : ∀ Z ι, RpL K Z ι [.ref (He.dflAt ("Table", some "__init__") 0 K)] [.tup []] := etup_rp (SY.ex_0 S)
theorem SY.ex_1 (S : SYk w K mg) : (itmB K "Table" "__getitem__") = true := And.left (He.ba (And.right (He.ba S.more)))
theorem SY.itm_Table___getitem__ (S : SYk w K mg) : ItmC K "Table" (He.fAd K ("Table", some "__getitem__")) "__getitem__" := itm_of (SY.ex_1 S) (S.meth 2)
theorem SY.ex_2 (S : SYk w K mg) : (itmB K "Table" "__setitem__") = true := And.left (He.ba (And.right (He.ba (And.right (He.ba S.more)))))
theorem SY.itm_Table___setitem__ (S : SYk w K mg) : ItmC K "Table" (He.fAd K ("Table", some "__setitem__")) "__setitem__" := itm_of (SY.ex_2 S) (S.meth 3)
theorem SY.ex_3 (S : SYk w K mg) : (ownB K "Table") = true := And.left (He.ba (And.right (He.ba (And.right (He.ba (And.right (He.ba S.more)))))))
theorem SY.own_Table (S : SYk w K mg) : OwnC K "Table" := ownC_of (SY.ex_3 S) (S.cls 1)
theorem SY.isi_Table (S : SYk w K mg) : IsiS K [.ref (He.ga K "Table")] isC_Table := isiS_C (SY.own_Table S)
theorem SY.eqOk_Table {X : Cx} (hK : X.K = K) (S : SYk w K mg) : EqOk X "Table" okE_Table := eqOk_C (by rw [hK]; exact SY.own_Table S)
theorem SY.ne_Table (S : SYk w K mg) : PySem.W.findIn K (.ref (He.ga K "Table")) "__ne__" = some (some (.builtin "object.__ne__")) := (SY.own_Table S).ne
theorem SY.mro_Table (S : SYk w K mg) : PySem.W.mroIn K (He.ga K "Table") (.type "object") = some true := (SY.own_Table S).ok.5
theorem SY.ex_4 (S : SYk w K mg) : (twoB K (He.ga K "Table")) = true := And.left (He.ba (And.right (He.ba (And.right (He.ba (And.right (He.ba (And.right (He.ba S.more)))))))))
theorem SY.two_Table (S : SYk w K mg) : twoB K (He.ga K "Table") = true := SY.ex_4 S
end
end MP

set_option Elab.async false
set_option linter.all false
set_option maxRecDepth 100000
set_option maxHeartbeats 0
namespace MP
open PySem PySem.Spec PyProof.Rows L2
/-! the head of law_k38_tables_as_sets -/
abbrev R0 : PySem.W.OpenRow := PySem.W.OpenLaw.row PySem.Challenge.rw_heldback_k38_tables_as_sets
abbrev hk0 : PySem.W.Hook := hookE fa0 fn0 ts0 ex0
def ob0 (s : PySem.W.SharedT) : He.AlX := obsE fa0 fn0 ts0 ex0 (HandSHeadRun.getT s)
theorem ob0_eq (s : PySem.W.SharedT) : ob0 s = hk0.obs s.abs := obsE_eq (HandSHeadRun.getT_eq s)
def loose0 : List Str := (["copied", "HeldError", "NotName", "NoSquare", "NotTruth", "UnlikeTables", "LETTERS", "is_name", "is_list", "sorted_names", "Table", "_law_draw", "_law_start", "_law_pick", "_law_mixed", "_law_same", "_law_name", "_law_names", "_law_listed", "_law_spoil"] : List Str) ++ (["_law_grid", "_law_squares", "_law_some", "_law_table_shows", "_law_made", "_law_united", "_law_signed", "_law_in_place", "_law_deed", "_law_compared"] : List Str)
theorem run0f (w : World) : HandSHeadRun.RunEq R0 (PySem.W.view R0.prog [34]) hk0 ob0 12000 loose0 (w.withFollow "special-get-raises" false) := by
  intro os
  kernel_rfl
theorem run0t (w : World) : HandSHeadRun.RunEq R0 (PySem.W.view R0.prog [34]) hk0 ob0 12000 loose0 (w.withFollow "special-get-raises" true) := by
  intro os
  kernel_rfl
theorem run0 (w : World) : HandSHeadRun.RunEq R0 (PySem.W.view R0.prog [34]) hk0 ob0 12000 loose0 w := PySem.W.byRow2 "special-get-raises" (P := fun w => HandSHeadRun.RunEq R0 (PySem.W.view R0.prog [34]) hk0 ob0 12000 loose0 w) run0f run0t w
end MP

set_option Elab.async false
set_option linter.all false
set_option maxRecDepth 100000
set_option maxHeartbeats 8000000
namespace MP
variable [Wd]
open PySem L2
section
variable {P : Program} {w : World} {K : PySem.W.Frag} {mg : Str → Option Value}
theorem ok_l_start (S : SYk w K mg) (base : Heap) : OkF P w K mg base (1) (He.fAd K ("_law_start", none)) ["_law_script"] [] l_start := by
  obtain ⟨fd, F⟩ := S.def_ 0 (d := d_l_start)
  exact okF (N := ["_law_script"]) rfl F sc_l_start (by decide) (fun _ _ _ _ _ _ us hl => match us, hl with | [_], _ => rfl) (fun cdv A outer s H E cx =>
    sb_one (ss_ret (sd_lstB (sa_cons (sd_callTy call_list_of cs_listB (S.free 4) (by rfl) (sa_cons (sd_var 0) (sa_nil))) (sa_cons (sd_int) (sa_cons (sd_int) (sa_cons (sd_int) (sa_nil))))))))
theorem ok_l_draw (S : SYk w K mg) (base : Heap) : OkF P w K mg base (1) (He.fAd K ("_law_draw", none)) ["_law_stream", "_law_many"] [] l_draw := by
  obtain ⟨fd, F⟩ := S.def_ 1 (d := d_l_draw)
  exact okF (N := ["_law_stream", "_law_many", "_law_mixed_here", "_law_digit"]) rfl F sc_l_draw (by decide) (fun _ _ _ _ _ _ us hl => match us, hl with | [_, _], _ => rfl) (fun cdv A outer s H E cx =>
    sb_cons (ss_asg (sd_bin op_addM os_add (sd_ix ix_seq os_ix (sd_var 0) (sd_int)) (sd_int)) (sg_sub (pg_sub (sd_var 0) (sd_int) set_list (by intro _; rfl))) gmSub_noex)
      (sb_cons (ss_if (st_w (sw_and (st_cmp (op_eqD cx.room.units) os_eq (sd_ix ix_seq os_ix (sd_var 0) (sd_int)) (sd_int)) (sw_and1 (st_cmp (op_neD cx.room.units) os_ne (sd_ix ix_seq os_ix (sd_var 0) (sd_int)) (sd_lst (sa_nil)))))) (sb_cons (ss_asg (sd_bm PySem.F.plainAttrs_list PySem.F.slot_list_pop PySem.F.type_list_pop mt_popAt ty_list ms_popAt (sd_ix ix_seq os_ix (sd_var 0) (sd_int)) (sa_cons (sd_int) (sa_nil))) (sg_sub (pg_sub (sd_var 0) (sd_int) set_list (by intro _; rfl))) gmSub_noex)
      (sb_one (ss_if (st_cmp op_lt os_lt (sd_ix ix_seq os_ix (sd_var 0) (sd_int)) (sd_bin op_pow os_pow (sd_int) (sd_int))) (sb_cons (ss_asg (sd_bin op_mod os_mod (sd_callTy call_int1 cs_int (S.free 5) (by rfl) (sa_cons (sd_bin op_addM os_add (sd_bin op_addM os_add (sd_bin op_mul os_mul (sd_ix ix_seq os_ix (sd_var 0) (sd_int)) (sd_int)) (sd_ix ix_seq os_ix (sd_var 0) (sd_int))) (sd_int)) (sa_nil))) (sd_int)) (sg_sub (pg_sub (sd_var 0) (sd_int) set_list (by intro _; rfl))) gmSub_noex)
      (sb_one (ss_asg (sd_int) (sg_sub (pg_sub (sd_var 0) (sd_int) set_list (by intro _; rfl))) gmSub_noex))) (sb_nil)))) (sb_nil))
      (sb_cons (ss_if (st_cmp op_gt os_gt (sd_ix ix_seq os_ix (sd_var 0) (sd_int)) (sd_int)) (sb_cons (ss_set (i := 3) sc_l_draw.nd (sd_bin op_mod os_mod (sd_callTy call_int1 cs_int (S.free 5) (by rfl) (sa_cons (sd_ix ix_seq os_ix (sd_var 0) (sd_int)) (sa_nil))) (sd_var 1)))
      (sb_cons (ss_asg (sd_bin op_fdiv os_div (sd_ix ix_seq os_ix (sd_var 0) (sd_int)) (sd_var 1)) (sg_sub (pg_sub (sd_var 0) (sd_int) set_list (by intro _; rfl))) gmSub_noex)
      (sb_one (ss_ret (sd_var 3))))) (sb_nil))
      (sb_cons (ss_set (i := 2) sc_l_draw.nd (sd_bin op_mod os_mod (sd_bin op_pow os_pow (sd_bin op_addM os_add (sd_bin op_addM os_add (sd_ix ix_seq os_ix (sd_var 0) (sd_int)) (sd_bin op_mul os_mul (sd_int) (sd_ix ix_seq os_ix (sd_var 0) (sd_int)))) (sd_int)) (sd_int)) (sd_int)))
      (sb_one (ss_ret (sd_bin op_mod os_mod (sd_bin op_mod os_mod (sd_bin op_pow os_pow (sd_bin op_addM os_add (sd_bin op_addM os_add (sd_bin op_mul os_mul (sd_var 2) (sd_int)) (sd_bin op_mul os_mul (sd_bin op_mul os_mul (sd_int) (sd_ix ix_seq os_ix (sd_var 0) (sd_int))) (sd_ix ix_seq os_ix (sd_var 0) (sd_int)))) (sd_int)) (sd_int)) (sd_int)) (sd_var 1))))))))
theorem ok_l_pick (S : SYk w K mg) (base : Heap) : OkF P w K mg base (2) (He.fAd K ("_law_pick", none)) ["_law_stream", "_law_some_here"] [] l_pick := by
  obtain ⟨fd, F⟩ := S.def_ 2 (d := d_l_pick)
  exact okF (N := ["_law_stream", "_law_some_here"]) rfl F sc_l_pick (by decide) (fun _ _ _ _ _ _ us hl => match us, hl with | [_, _], _ => rfl) (fun cdv A outer s H E cx =>
    sb_one (ss_ret (sd_ix ix_seq os_ix (sd_var 1) (sd_callO (ok_l_draw S base) cx.room (by omega) cx.hG (S.glo 7) cx.tk (sa_cons (sd_var 0) (sa_cons (sd_callB call_len cs_len (S.free 6) boot_len (sa_cons (sd_var 1) (sa_nil))) (sa_nil))) (mCons_len (mCons_len mNil_len))))))
theorem ok_l_name (S : SYk w K mg) (base : Heap) : OkF P w K mg base (3) (He.fAd K ("_law_name", none)) ["_law_stream"] [] l_name := by
  obtain ⟨fd, F⟩ := S.def_ 3 (d := d_l_name)
  exact okF (N := ["_law_stream", "_law_size", "_law_k"]) rfl F sc_l_name (by decide) (fun _ _ _ _ _ _ us hl => match us, hl with | [_], _ => rfl) (fun cdv A outer s H E cx =>
    sb_cons (ss_set (i := 1) sc_l_name.nd (sd_ix ix_seq os_ix (sd_lst (sa_cons (sd_int) (sa_cons (sd_int) (sa_cons (sd_int) (sa_cons (sd_int) (sa_cons (sd_int) (sa_cons (sd_int) (sa_nil)))))))) (sd_callO (ok_l_draw S base) cx.room (by omega) cx.hG (S.glo 7) cx.tk (sa_cons (sd_var 0) (sa_cons (sd_int) (sa_nil))) (mCons_len (mCons_len mNil_len)))))
      (sb_one (ss_ret (sd_bm PySem.F.plainAttrs_str PySem.F.slot_str_join PySem.F.type_str_join mt_join ty_str ms_join (sd_str) (sa_cons (sd_lc (own := [("_law_k", 2)]) sc_l_name.nd (si_range (S.free 8) (sa_cons (sd_var 1) (sa_nil))) (blkOk_by (N := ["_law_stream", "_law_size", "_law_k"]) (sc := (defScope s_l_name)) (by decide +kernel)) (fun _ _ _ _ _ => pg_name (i := 2) sc_l_name.nd rfl (Or.inl rfl)) (gok_name (by decide)) (fun _ _ _ _ _ => sts_nil) (fun _ _ _ _ _ => sd_callO (ok_l_pick S base) cx.room (by omega) cx.hG (S.glo 9) takes0 (sa_cons (sd_var 0) (sa_cons (sd_str) (sa_nil))) (mCons_len (mCons_len mNil_len)))) (sa_nil))))))
theorem ok_l_names (S : SYk w K mg) (base : Heap) : OkF P w K mg base (4) (He.fAd K ("_law_names", none)) ["_law_stream", "_law_many"] [] l_names := by
  obtain ⟨fd, F⟩ := S.def_ 4 (d := d_l_names)
  exact okF (N := ["_law_stream", "_law_many", "_law_names_here", "_law_k", "_law_name_here", "_law_spare", "_law_letter", "_law_one"]) rfl F sc_l_names (by decide) (fun _ _ _ _ _ _ us hl => match us, hl with | [_, _], _ => rfl) (fun cdv A outer s H E cx =>
    sb_cons (ss_set (i := 2) sc_l_names.nd (sd_lstB (sa_nil)))
      (sb_cons (ss_for cx.own rfl (si_range (S.free 8) (sa_cons (sd_var 1) (sa_nil))) (sg_name (i := 3) sc_l_names.nd) (sb_cons (ss_set (i := 4) sc_l_names.nd (sd_callO (ok_l_name S base) cx.room (by omega) cx.hG (S.glo 10) cx.tk (sa_cons (sd_var 0) (sa_nil)) (mCons_len mNil_len)))
      (sb_cons (ss_set (i := 5) sc_l_names.nd (sd_bin op_addM os_add (sd_lst (sa_cons (sd_var 4) (sa_nil))) (sd_lc (own := [("_law_letter", 6)]) sc_l_names.nd (si_seq (sd_str)) (blkOk_by (N := ["_law_stream", "_law_many", "_law_names_here", "_law_k", "_law_name_here", "_law_spare", "_law_letter", "_law_one"]) (sc := (defScope s_l_names)) (by decide +kernel)) (fun _ _ _ _ _ => pg_name (i := 6) sc_l_names.nd rfl (Or.inl rfl)) (gok_name (by decide)) (fun _ _ _ _ _ => sts_nil) (fun _ _ _ _ _ => sd_bin op_addM os_add (sd_bin op_addM os_add (sd_var 6) (sd_str)) (sd_var 6)))))
      (sb_one (ss_expr (sd_bm PySem.F.plainAttrs_list PySem.F.slot_list_append PySem.F.type_list_append mt_append ty_list ms_append (sd_var 2) (sa_cons (sd_ix ix_seq os_ix (sd_lc (own := [("_law_one", 7)]) sc_l_names.nd (si_seq (sd_var 5)) (blkOk_by (N := ["_law_stream", "_law_many", "_law_names_here", "_law_k", "_law_name_here", "_law_spare", "_law_letter", "_law_one"]) (sc := (defScope s_l_names)) (by decide +kernel)) (fun _ _ _ _ _ => pg_name (i := 7) sc_l_names.nd rfl (Or.inl rfl)) (gok_name (by decide)) (fun _ _ _ _ _ => sts_one (st_cmp op_notInM os_notIn (sd_var 7) (sd_var 2))) (fun _ _ _ _ _ => sd_var 7)) (sd_int)) (sa_nil))))))) gmName_noex)
      (sb_one (ss_ret (sd_var 2)))))
theorem ok_l_grid (S : SYk w K mg) (base : Heap) : OkF P w K mg base (5) (He.fAd K ("_law_grid", none)) ["_law_stream"] [] l_grid := by
  obtain ⟨fd, F⟩ := S.def_ 5 (d := d_l_grid)
  exact okF (N := ["_law_stream", "_law_names_here", "_law_cells", "_law_ways"]) rfl F sc_l_grid (by decide) (fun _ _ _ _ _ _ us hl => match us, hl with | [_], _ => rfl) (fun cdv A outer s H E cx =>
    sb_cons (ss_set (i := 1) sc_l_grid.nd (sd_callO (ok_l_names S base) cx.room (by omega) cx.hG (S.glo 11) cx.tk (sa_cons (sd_var 0) (sa_cons (sd_int) (sa_nil))) (mCons_len (mCons_len mNil_len))))
      (sb_cons (ss_par (i := 2) (j := 3) sc_l_grid.nd (sa_cons (sd_slice (sd_var 1) (so_none) (so_some (sd_callO (ok_l_draw S base) cx.room (by omega) cx.hG (S.glo 7) cx.tk (sa_cons (sd_var 0) (sa_cons (sd_int) (sa_nil))) (mCons_len (mCons_len mNil_len))))) (sa_cons (sd_slice (sd_var 1) (so_some (sd_int)) (so_some (sd_bin op_addM os_add (sd_int) (sd_callO (ok_l_draw S base) cx.room (by omega) cx.hG (S.glo 7) cx.tk (sa_cons (sd_var 0) (sa_cons (sd_int) (sa_nil))) (mCons_len (mCons_len mNil_len)))))) (sa_nil))))
      (sb_cons (ss_if (st_w (sw_and (st_cmp (op_eqD cx.room.units) os_eq (sd_callO (ok_l_draw S base) cx.room (by omega) cx.hG (S.glo 7) cx.tk (sa_cons (sd_var 0) (sa_cons (sd_int) (sa_nil))) (mCons_len (mCons_len mNil_len))) (sd_int)) (sw_and1 (st_cmp op_notInM os_notIn (sd_str) (sd_var 3))))) (sb_one (ss_set (i := 3) sc_l_grid.nd (sd_bin op_addM os_add (sd_var 3) (sd_lst (sa_cons (sd_str) (sa_nil)))))) (sb_nil))
      (sb_cons (ss_if (st_w (sw_and (st_cmp (op_eqD cx.room.units) os_eq (sd_callO (ok_l_draw S base) cx.room (by omega) cx.hG (S.glo 7) cx.tk (sa_cons (sd_var 0) (sa_cons (sd_int) (sa_nil))) (mCons_len (mCons_len mNil_len))) (sd_int)) (sw_and1 (st_cmp op_notInM os_notIn (sd_str) (sd_var 2))))) (sb_one (ss_set (i := 2) sc_l_grid.nd (sd_bin op_addM os_add (sd_slice (sd_var 2) (so_none) (so_some (sd_int))) (sd_lst (sa_cons (sd_str) (sa_nil)))))) (sb_nil))
      (sb_one (ss_ret (sd_tup (sa_cons (sd_callB cr_sortedS cs_sortS (S.free 12) (by rfl) (sa_cons (sd_var 2) (sa_nil))) (sa_cons (sd_callB cr_sortedS cs_sortS (S.free 12) (by rfl) (sa_cons (sd_var 3) (sa_nil))) (sa_nil))))))))))
theorem ok_l_squares (S : SYk w K mg) (base : Heap) : OkF P w K mg base (1) (He.fAd K ("_law_squares", none)) ["_law_cells", "_law_ways"] [] l_squares := by
  obtain ⟨fd, F⟩ := S.def_ 6 (d := d_l_squares)
  exact okF (N := ["_law_cells", "_law_ways", "_law_found", "_law_cell", "_law_way"]) rfl F sc_l_squares (by decide) (fun _ _ _ _ _ _ us hl => match us, hl with | [_, _], _ => rfl) (fun cdv A outer s H E cx =>
    sb_cons (ss_set (i := 2) sc_l_squares.nd (sd_lstB (sa_nil)))
      (sb_cons (ss_for cx.own rfl (si_seq (sd_var 0)) (sg_name (i := 3) sc_l_squares.nd) (sb_one (ss_expr (sd_bm PySem.F.plainAttrs_list PySem.F.slot_list_extend PySem.F.type_list_extend mt_extendM ty_list ms_extend (sd_var 2) (sa_cons (sd_lc (own := [("_law_way", 4)]) sc_l_squares.nd (si_seq (sd_var 1)) (blkOk_by (N := ["_law_cells", "_law_ways", "_law_found", "_law_cell", "_law_way"]) (sc := (defScope s_l_squares)) (by decide +kernel)) (fun _ _ _ _ _ => pg_name (i := 4) sc_l_squares.nd rfl (Or.inl rfl)) (gok_name (by decide)) (fun _ _ _ _ _ => sts_nil) (fun _ _ _ _ _ => sd_tup (sa_cons (sd_var 3) (sa_cons (sd_var 4) (sa_nil))))) (sa_nil))))) gmName_noex)
      (sb_one (ss_ret (sd_var 2)))))
theorem ok_p_is_name (S : SYk w K mg) (base : Heap) : OkF P w K mg base (1) (He.fAd K ("is_name", none)) ["thing"] [] p_is_name := by
  obtain ⟨fd, F⟩ := S.def_ 7 (d := d_p_is_name)
  exact okF (N := ["thing", "sign"]) rfl F sc_p_is_name (by decide) (fun _ _ _ _ _ _ us hl => match us, hl with | [_], _ => rfl) (fun cdv A outer s H E cx =>
    sb_one (ss_ret (sd_and (sd_isi (.ty "str") (isiS_B ["str"] (by decide)) (sd_var 0) (pe_bltn rfl (S.free 13) (by rfl) rfl) (S.free 14)) (sd_and (sd_chain op_le op_le (sd_int) (sd_callB call_len cs_len (S.free 6) boot_len (sa_cons (sd_var 0) (sa_nil))) (sd_int)) (sd_one (sd_callB (cr_all rfl) cs_all (S.free 16) (by rfl) (sa_cons (sd_lc (own := [("sign", 1)]) sc_p_is_name.nd (si_seq (sd_var 0)) (blkOk_by (N := ["thing", "sign"]) (sc := (defScope s_p_is_name)) (by decide +kernel)) (fun _ _ _ _ _ => pg_name (i := 1) sc_p_is_name.nd rfl (Or.inl rfl)) (gok_name (by decide)) (fun _ _ _ _ _ => sts_nil) (fun _ _ _ _ _ => sd_cmp op_inM os_in (sd_var 1) ((sd_globS (S.str 15))))) (sa_nil))))))))
theorem ok_p_sorted_names (S : SYk w K mg) (base : Heap) : OkF P w K mg base (2) (He.fAd K ("sorted_names", none)) ["things"] [] p_sorted_names := by
  obtain ⟨fd, F⟩ := S.def_ 8 (d := d_p_sorted_names)
  exact okF (N := ["things", "thing"]) rfl F sc_p_sorted_names (by decide) (fun _ _ _ _ _ _ us hl => match us, hl with | [_], _ => rfl) (fun cdv A outer s H E cx =>
    sb_cons (ss_for cx.own rfl (si_seq (sd_var 0)) (sg_name (i := 1) sc_p_sorted_names.nd) (sb_one (ss_if (st_not (st_val (sd_callO (ok_p_is_name S base) cx.room (by omega) cx.hG (S.glo 17) cx.tk (sa_cons (sd_var 1) (sa_nil)) (mCons_len mNil_len)))) (sb_one (ss_halt)) (sb_nil))) gmName_noex)
      (sb_one (ss_ret (sd_sortSet rfl (S.free 18) (S.free 12) (sd_var 0)))))
theorem ok_p_is_list (S : SYk w K mg) (base : Heap) : OkF P w K mg base (1) (He.fAd K ("is_list", none)) ["thing"] [] p_is_list := by
  obtain ⟨fd, F⟩ := S.def_ 9 (d := d_p_is_list)
  exact okF (N := ["thing"]) rfl F sc_p_is_list (by decide) (fun _ _ _ _ _ _ us hl => match us, hl with | [_], _ => rfl) (fun cdv A outer s H E cx =>
    sb_one (ss_ret (sd_isi2 (.ty "list") (.ty "tuple") (isiS_B ["list", "tuple"] (by decide)) (sd_var 0) (pe_bltn rfl (S.free 4) (by rfl) rfl) (pe_bltn rfl (S.free 19) (by rfl) rfl) (S.free 14))))
theorem ok_c_Table_known_square (S : SYk w K mg) (base : Heap) : OkF P w K mg base (2) (He.fAd K ("Table", some "known_square")) ["self", "thing"] [] c_Table_known_square := by
  obtain ⟨fd, F⟩ := S.def_ 10 (d := d_c_Table_known_square)
  exact okF (N := ["self", "thing"]) rfl F sc_c_Table_known_square (by decide) (fun _ _ _ _ _ _ us hl => match us, hl with | [_, _], _ => rfl) (fun cdv A outer s H E cx =>
    sb_cons (ss_if (st_w (sw_or (st_not (st_val (sd_callO (ok_p_is_list S base) cx.room (by omega) cx.hG (S.glo 20) cx.tk (sa_cons (sd_var 1) (sa_nil)) (mCons_len mNil_len)))) (sw_or1 (st_cmp (op_neD cx.room.units) os_ne (sd_callB call_len cs_len (S.free 6) boot_len (sa_cons (sd_var 1) (sa_nil))) (sd_int))))) (sb_one (ss_halt)) (sb_nil))
      (sb_cons (ss_if (st_w (sw_or (st_cmp op_notInM os_notIn (sd_ix ix_seq os_ix (sd_var 1) (sd_int)) (sd_fld (S.cls 1) (S.noat 21) (sd_var 0))) (sw_or1 (st_cmp op_notInM os_notIn (sd_ix ix_seq os_ix (sd_var 1) (sd_int)) (sd_fld (S.cls 1) (S.noat 22) (sd_var 0)))))) (sb_one (ss_halt)) (sb_nil))
      (sb_one (ss_ret (sd_tup (sa_cons (sd_ix ix_seq os_ix (sd_var 1) (sd_int)) (sa_cons (sd_ix ix_seq os_ix (sd_var 1) (sd_int)) (sa_nil))))))))
theorem ok_c_Table_init (S : SYk w K mg) (base : Heap) : OkF P w K mg base (3) (He.fAd K ("Table", some "__init__")) ["self", "cells", "ways", "squares"] [.ref (He.dflAt ("Table", some "__init__") 0 K)] c_Table_init := by
  obtain ⟨fd, F⟩ := S.def_ 11 (d := d_c_Table_init)
  exact okF1 (N := ["self", "cells", "ways", "squares", "thing"]) rfl F sc_c_Table_init (by decide) 3 rfl (fun _ _ _ _ _ _ _ us its hl hi => match us, its, hl, hi with | [_, _, _, _], [_], _, _ => ⟨_, rfl, rfl⟩) (fun _ _ _ _ _ _ _ us its hl hi => match us, its, hl, hi with | [_, _, _], [_], _, _ => ⟨_, rfl, rfl⟩) (fun cdv A outer s H E cx =>
    sb_cons (ss_fld (S.cls 1) (S.noat 21) (sd_var 0) (sd_callO (ok_p_sorted_names S base) cx.room (by omega) cx.hG (S.glo 23) cx.tk (sa_cons (sd_var 1) (sa_nil)) (mCons_len mNil_len)))
      (sb_cons (ss_fld (S.cls 1) (S.noat 22) (sd_var 0) (sd_callO (ok_p_sorted_names S base) cx.room (by omega) cx.hG (S.glo 23) cx.tk (sa_cons (sd_var 2) (sa_nil)) (mCons_len mNil_len)))
      (sb_one (ss_fld (S.cls 1) (S.noat 25) (sd_var 0) (sd_ndc (own := [("thing", 4)]) S.wd cx.room.units8 sc_c_Table_init.nd (si_seq (sd_var 3)) (blkOk_by (N := ["self", "cells", "ways", "squares", "thing"]) (sc := (defScope s_c_Table_init)) (by decide +kernel)) (fun _ _ _ _ _ => pg_name (i := 4) sc_c_Table_init.nd rfl (Or.inl rfl)) (gok_name (by decide)) (fun _ _ _ _ _ => sts_nil) (fun _ _ _ _ _ => sd_methO (S.cls 1) (S.meth 24) (ok_c_Table_known_square S base) cx.room (by omega) cx.hG takes0 (sd_var 0) (sa_cons (sd_var 4) (sa_nil)) (fun ρ s ds s' h => by rw [(mCons_len mNil_len) ρ s ds s' h]; rfl)) (fun _ _ _ _ _ => sd_bl))))))
end
end MP

set_option Elab.async false
set_option linter.all false
set_option maxRecDepth 100000
set_option maxHeartbeats 8000000
namespace MP
variable [Wd]
open PySem L2
section
variable {P : Program} {w : World} {K : PySem.W.Frag} {mg : Str → Option Value}
theorem ok_c_Table_squares (S : SYk w K mg) (base : Heap) : OkF P w K mg base (1) (He.fAd K ("Table", some "squares")) ["self"] [] c_Table_squares := by
  obtain ⟨fd, F⟩ := S.def_ 12 (d := d_c_Table_squares)
  exact okF (N := ["self"]) rfl F sc_c_Table_squares (by decide) (fun _ _ _ _ _ _ us hl => match us, hl with | [_], _ => rfl) (fun cdv A outer s H E cx =>
    sb_one (ss_ret (sd_callB (call_sortN rfl cx.room.units61) (cs_sortN S.wd) (S.free 12) (by rfl) (sa_cons (sd_fld (S.cls 1) (S.noat 25) (sd_var 0)) (sa_nil)))))
theorem ok_l_some (S : SYk w K mg) (base : Heap) : OkF P w K mg base (2) (He.fAd K ("_law_some", none)) ["_law_stream", "_law_things"] [] l_some := by
  obtain ⟨fd, F⟩ := S.def_ 13 (d := d_l_some)
  exact okF (N := ["_law_stream", "_law_things", "_law_thing"]) rfl F sc_l_some (by decide) (fun _ _ _ _ _ _ us hl => match us, hl with | [_, _], _ => rfl) (fun cdv A outer s H E cx =>
    sb_one (ss_ret (sd_lc (own := [("_law_thing", 2)]) sc_l_some.nd (si_seq (sd_var 1)) (blkOk_by (N := ["_law_stream", "_law_things", "_law_thing"]) (sc := (defScope s_l_some)) (by decide +kernel)) (fun _ _ _ _ _ => pg_name (i := 2) sc_l_some.nd rfl (Or.inl rfl)) (gok_name (by decide)) (fun _ _ _ _ _ => sts_one (st_cmp (op_eqD cx.room.units) os_eq (sd_callO (ok_l_draw S base) cx.room (by omega) cx.hG (S.glo 7) takes0 (sa_cons (sd_var 0) (sa_cons (sd_int) (sa_nil))) (mCons_len (mCons_len mNil_len))) (sd_int))) (fun _ _ _ _ _ => sd_var 2))))
theorem ok_l_mixed (S : SYk w K mg) (base : Heap) : OkF P w K mg base (2) (He.fAd K ("_law_mixed", none)) ["_law_stream", "_law_some_here"] [] l_mixed := by
  obtain ⟨fd, F⟩ := S.def_ 14 (d := d_l_mixed)
  exact okF (N := ["_law_stream", "_law_some_here", "_law_left", "_law_k"]) rfl F sc_l_mixed (by decide) (fun _ _ _ _ _ _ us hl => match us, hl with | [_, _], _ => rfl) (fun cdv A outer s H E cx =>
    sb_cons (ss_set (i := 2) sc_l_mixed.nd (sd_callTy call_list_of cs_listB (S.free 4) (by rfl) (sa_cons (sd_var 1) (sa_nil))))
      (sb_one (ss_ret (sd_lcB (own := [("_law_k", 3)]) sc_l_mixed.nd (si_range (S.free 8) (sa_cons (sd_callB call_len cs_len (S.free 6) boot_len (sa_cons (sd_var 2) (sa_nil))) (sa_nil))) (blkOk_by (N := ["_law_stream", "_law_some_here", "_law_left", "_law_k"]) (sc := (defScope s_l_mixed)) (by decide +kernel)) (fun _ _ _ _ _ => pg_name (i := 3) sc_l_mixed.nd rfl (Or.inl rfl)) (gok_name (by decide)) (fun _ _ _ _ _ => sts_nil) (fun _ _ _ _ _ => sd_bm PySem.F.plainAttrs_list PySem.F.slot_list_pop PySem.F.type_list_pop mt_popAt ty_list ms_popAt (sd_var 2) (sa_cons (sd_callO (ok_l_draw S base) cx.room (by omega) cx.hG (S.glo 7) takes0 (sa_cons (sd_var 0) (sa_cons (sd_callB call_len cs_len (S.free 6) boot_len (sa_cons (sd_var 2) (sa_nil))) (sa_nil))) (mCons_len (mCons_len mNil_len))) (sa_nil)))))))
theorem ok_l_listed (S : SYk w K mg) (base : Heap) : ∀ n : Nat, OkF P w K mg base (2 + 2 * n) (He.fAd K ("_law_listed", none)) ["_law_stream", "_law_thing"] [] (l_listed n)
  | 0 => by
    obtain ⟨fd, F⟩ := S.def_ 15 (d := d_l_listed)
    have b := F.bindsN (ps := ["_law_stream", "_law_thing"]) (fun _ _ _ _ _ _ us hl => match us, hl with | [_, _], _ => rfl)
    exact okF_halt (fun _ _ => rfl) ⟨fd, F.kp, b, [], .nil, b⟩
  | n + 1 => by
    have ih_l_listed := ok_l_listed S base n
    obtain ⟨fd, F⟩ := S.def_ 15 (d := d_l_listed)
    exact okF (k := 2 + 2 * n + 1) (N := ["_law_stream", "_law_thing", "_law_inner", "_law_one"]) rfl F sc_l_listed (by decide) (fun _ _ _ _ _ _ us hl => match us, hl with | [_, _], _ => rfl) (fun cdv A outer s H E cx =>
      sb_cons (ss_if (st_not (st_val (sd_isi (.ty "tuple") (isiS_B ["tuple"] (by decide)) (sd_var 1) (pe_bltn rfl (S.free 19) (by rfl) rfl) (S.free 14)))) (sb_one (ss_ret (sd_var 1))) (sb_nil))
      (sb_cons (ss_setLcB (i := 2) (own := [("_law_one", 3)]) sc_l_listed.nd (si_seq (sd_var 1)) (blkOk_by (N := ["_law_stream", "_law_thing", "_law_inner", "_law_one"]) (sc := (defScope s_l_listed)) (by decide +kernel)) (fun _ _ _ _ _ => pg_name (i := 3) sc_l_listed.nd rfl (Or.inl rfl)) (gok_name (by decide)) (fun _ _ _ _ _ => sts_nil) (fun _ _ _ _ _ => sd_callO (ih_l_listed) cx.room (by omega) cx.hG (S.glo 26) takes0 (sa_cons (sd_var 0) (sa_cons (sd_var 3) (sa_nil))) (mCons_len (mCons_len mNil_len))) (by rfl))
      (sb_one (ss_ret (sd_if (st_cmp (op_eqD cx.room.units) os_eq (sd_callO (ok_l_draw S base) cx.room (by omega) cx.hG (S.glo 7) cx.tk (sa_cons (sd_var 0) (sa_cons (sd_int) (sa_nil))) (mCons_len (mCons_len mNil_len))) (sd_int)) (sd_var 2) (sd_callTy call_tuple_of cs_tuple (S.free 19) (by rfl) (sa_cons (sd_var 2) (sa_nil))))))))
theorem ok_l_spoil (S : SYk w K mg) (base : Heap) : ∀ n : Nat, OkF P w K mg base (1 + 2 * n) (He.fAd K ("_law_spoil", none)) ["_law_thing"] [] (l_spoil n)
  | 0 => by
    obtain ⟨fd, F⟩ := S.def_ 16 (d := d_l_spoil)
    have b := F.bindsN (ps := ["_law_thing"]) (fun _ _ _ _ _ _ us hl => match us, hl with | [_], _ => rfl)
    exact okF_halt (fun _ _ => rfl) ⟨fd, F.kp, b, [], .nil, b⟩
  | n + 1 => by
    have ih_l_spoil := ok_l_spoil S base n
    obtain ⟨fd, F⟩ := S.def_ 16 (d := d_l_spoil)
    exact okF (k := 1 + 2 * n + 1) (N := ["_law_thing", "_law_one"]) rfl F sc_l_spoil (by decide) (fun _ _ _ _ _ _ us hl => match us, hl with | [_], _ => rfl) (fun cdv A outer s H E cx =>
      sb_cons (ss_if (st_val (sd_isi2 (.ty "list") (.ty "tuple") (isiS_B ["list", "tuple"] (by decide)) (sd_var 0) (pe_bltn rfl (S.free 4) (by rfl) rfl) (pe_bltn rfl (S.free 19) (by rfl) rfl) (S.free 14))) (sb_one (ss_for cx.own rfl (si_seq (sd_callTy call_list_of cs_list (S.free 4) (by rfl) (sa_cons (sd_var 0) (sa_nil)))) (sg_name (i := 1) sc_l_spoil.nd) (sb_one (ss_expr (sd_callO (ih_l_spoil) cx.room (by omega) cx.hG (S.glo 27) cx.tk (sa_cons (sd_var 1) (sa_nil)) (mCons_len mNil_len)))) gmName_noex)) (sb_nil))
      (sb_one (ss_if (st_val (sd_isi (.ty "list") (isiS_B ["list"] (by decide)) (sd_var 0) (pe_bltn rfl (S.free 4) (by rfl) rfl) (S.free 14))) (sb_one (ss_expr (sd_bm PySem.F.plainAttrs_list PySem.F.slot_list_append PySem.F.type_list_append mt_append ty_list ms_append (sd_var 0) (sa_cons (sd_int) (sa_nil))))) (sb_nil))))
theorem ok_c_Table_cellsB (S : SYk w K mg) (base : Heap) : OkF P w K mg base (1) (He.fAd K ("Table", some "cells")) ["self"] [] c_Table_cellsB := by
  obtain ⟨fd, F⟩ := S.def_ 17 (d := d_c_Table_cellsB)
  exact okF (N := ["self"]) rfl F sc_c_Table_cellsB (by decide) (fun _ _ _ _ _ _ us hl => match us, hl with | [_], _ => rfl) (fun cdv A outer s H E cx =>
    sb_one (ss_ret (sd_callTy call_list_of cs_listB (S.free 4) (by rfl) (sa_cons (sd_fld (S.cls 1) (S.noat 21) (sd_var 0)) (sa_nil)))))
theorem ok_c_Table_waysB (S : SYk w K mg) (base : Heap) : OkF P w K mg base (1) (He.fAd K ("Table", some "ways")) ["self"] [] c_Table_waysB := by
  obtain ⟨fd, F⟩ := S.def_ 18 (d := d_c_Table_waysB)
  exact okF (N := ["self"]) rfl F sc_c_Table_waysB (by decide) (fun _ _ _ _ _ _ us hl => match us, hl with | [_], _ => rfl) (fun cdv A outer s H E cx =>
    sb_one (ss_ret (sd_callTy call_list_of cs_listB (S.free 4) (by rfl) (sa_cons (sd_fld (S.cls 1) (S.noat 22) (sd_var 0)) (sa_nil)))))
theorem ok_c_Table_squaresB (S : SYk w K mg) (base : Heap) : OkF P w K mg base (1) (He.fAd K ("Table", some "squares")) ["self"] [] c_Table_squaresB := by
  obtain ⟨fd, F⟩ := S.def_ 19 (d := d_c_Table_squaresB)
  exact okF (N := ["self"]) rfl F sc_c_Table_squaresB (by decide) (fun _ _ _ _ _ _ us hl => match us, hl with | [_], _ => rfl) (fun cdv A outer s H E cx =>
    sb_one (ss_ret (sd_callB (call_sortN rfl cx.room.units61) (cs_sortNB S.wd) (S.free 12) (by rfl) (sa_cons (sd_fld (S.cls 1) (S.noat 25) (sd_var 0)) (sa_nil)))))
theorem ok_l_made (S : SYk w K mg) (base : Heap) : OkF P w K mg base (43) (He.fAd K ("_law_made", none)) ["_law_stream", "_law_cells", "_law_ways", "_law_squares_here"] [] l_made := by
  obtain ⟨fd, F⟩ := S.def_ 20 (d := d_l_made)
  exact okF (N := ["_law_stream", "_law_cells", "_law_ways", "_law_squares_here", "_law_some_here", "_law_others", "_law_given", "_law_table", "_law_thing"]) rfl F sc_l_made (by decide) (fun _ _ _ _ _ _ us hl => match us, hl with | [_, _, _, _], _ => rfl) (fun cdv A outer s H E cx =>
    sb_cons (ss_set (i := 4) sc_l_made.nd (sd_callO (ok_l_mixed S base) cx.room (by omega) cx.hG (S.glo 28) cx.tk (sa_cons (sd_var 0) (sa_cons (sd_bin op_addM os_add (sd_var 1) (sd_slice (sd_var 1) (so_none) (so_some (sd_int)))) (sa_nil))) (mCons_len (mCons_len mNil_len))))
      (sb_cons (ss_set (i := 5) sc_l_made.nd (sd_callO (ok_l_mixed S base) cx.room (by omega) cx.hG (S.glo 28) cx.tk (sa_cons (sd_var 0) (sa_cons (sd_bin op_addM os_add (sd_var 2) (sd_slice (sd_var 2) (so_none) (so_some (sd_int)))) (sa_nil))) (mCons_len (mCons_len mNil_len))))
      (sb_cons (ss_set (i := 6) sc_l_made.nd (sd_callO (ok_l_listed S base 20) cx.room (by omega) cx.hG (S.glo 26) cx.tk (sa_cons (sd_var 0) (sa_cons (sd_callTy call_tuple_of cs_tuple (S.free 19) (by rfl) (sa_cons (sd_callO (ok_l_mixed S base) cx.room (by omega) cx.hG (S.glo 28) cx.tk (sa_cons (sd_var 0) (sa_cons (sd_bin op_addM os_add (sd_var 3) (sd_slice (sd_var 3) (so_none) (so_some (sd_int)))) (sa_nil))) (mCons_len (mCons_len mNil_len))) (sa_nil))) (sa_nil))) (mCons_len (mCons_len mNil_len))))
      (sb_cons (ss_set (i := 7) sc_l_made.nd (sd_makeO (S.mkr 29) (ok_c_Table_init S base) cx.room (by omega) cx.hG (S.glo 30) cx.tk (sa_cons (sd_callO (ok_l_listed S base 20) cx.room (by omega) cx.hG (S.glo 26) cx.tk (sa_cons (sd_var 0) (sa_cons (sd_callTy call_tuple_of cs_tuple (S.free 19) (by rfl) (sa_cons (sd_var 4) (sa_nil))) (sa_nil))) (mCons_len (mCons_len mNil_len))) (sa_cons (sd_var 5) (sa_cons (sd_var 6) (sa_nil)))) (fun ρ s ds s' h => by rw [(mCons_len (mCons_len (mCons_len mNil_len))) ρ s ds s' h]; rfl)))
      (sb_cons (ss_for cx.own rfl (si_seq (sd_tup (sa_cons (sd_var 5) (sa_cons (sd_var 6) (sa_nil))))) (sg_name (i := 8) sc_l_made.nd) (sb_one (ss_expr (sd_callO (ok_l_spoil S base 20) cx.room (by omega) cx.hG (S.glo 27) cx.tk (sa_cons (sd_var 8) (sa_nil)) (mCons_len mNil_len)))) gmName_noex)
      (sb_cons (ss_expr (sd_bm PySem.F.plainAttrs_list PySem.F.slot_list_append PySem.F.type_list_append mt_append ty_list ms_append (sd_methO0 (S.cls 1) (S.meth 31) (ok_c_Table_cellsB S base) cx.room (by omega) cx.hG cx.tk (sd_var 7) rfl) (sa_cons (sd_str) (sa_nil))))
      (sb_cons (ss_expr (sd_bm PySem.F.plainAttrs_list PySem.F.slot_list_append PySem.F.type_list_append mt_append ty_list ms_append (sd_methO0 (S.cls 1) (S.meth 32) (ok_c_Table_waysB S base) cx.room (by omega) cx.hG cx.tk (sd_var 7) rfl) (sa_cons (sd_str) (sa_nil))))
      (sb_cons (ss_expr (sd_bm PySem.F.plainAttrs_list PySem.F.slot_list_append PySem.F.type_list_append mt_append ty_list ms_append (sd_methO0 (S.cls 1) (S.meth 33) (ok_c_Table_squaresB S base) cx.room (by omega) cx.hG cx.tk (sd_var 7) rfl) (sa_cons (sd_tup (sa_cons (sd_str) (sa_cons (sd_str) (sa_nil)))) (sa_nil))))
      (sb_one (ss_ret (sd_var 7)))))))))))
theorem ok_c_Table_check (S : SYk w K mg) (base : Heap) : OkF P w K mg base (1) (He.fAd K ("Table", some "check")) ["self", "other"] [] c_Table_check := by
  obtain ⟨fd, F⟩ := S.def_ 21 (d := d_c_Table_check)
  exact okF (N := ["self", "other"]) rfl F sc_c_Table_check (by decide) (fun _ _ _ _ _ _ us hl => match us, hl with | [_, _], _ => rfl) (fun cdv A outer s H E cx =>
    sb_one (ss_if (st_w (sw_or (st_cmp (op_neD cx.room.units) os_ne (sd_fld (S.cls 1) (S.noat 21) (sd_var 0)) (sd_fld (S.cls 1) (S.noat 21) (sd_var 1))) (sw_or1 (st_cmp (op_neD cx.room.units) os_ne (sd_fld (S.cls 1) (S.noat 22) (sd_var 0)) (sd_fld (S.cls 1) (S.noat 22) (sd_var 1)))))) (sb_one (ss_halt)) (sb_nil)))
theorem ok_c_Table_within (S : SYk w K mg) (base : Heap) : OkF P w K mg base (2) (He.fAd K ("Table", some "within")) ["self", "other"] [] c_Table_within := by
  obtain ⟨fd, F⟩ := S.def_ 22 (d := d_c_Table_within)
  exact okF (N := ["self", "other", "square"]) rfl F sc_c_Table_within (by decide) (fun _ _ _ _ _ _ us hl => match us, hl with | [_, _], _ => rfl) (fun cdv A outer s H E cx =>
    sb_cons (ss_expr (sd_methO (S.cls 1) (S.meth 34) (ok_c_Table_check S base) cx.room (by omega) cx.hG cx.tk (sd_var 0) (sa_cons (sd_var 1) (sa_nil)) (fun ρ s ds s' h => by rw [(mCons_len mNil_len) ρ s ds s' h]; rfl)))
      (sb_one (ss_ret (sd_callB (cr_all rfl) cs_all (S.free 16) (by rfl) (sa_cons (sd_heldFE 0 "back" (sd_lc (own := [("square", 2)]) sc_c_Table_within.nd (si_keysN S.wd (sd_fld (S.cls 1) (S.noat 25) (sd_var 0))) (blkOk_by (N := ["self", "other", "square"]) (sc := (defScope s_c_Table_within)) (by decide +kernel)) (fun _ _ _ _ _ => pg_name (i := 2) sc_c_Table_within.nd rfl (Or.inl rfl)) (gok_name (by decide)) (fun _ _ _ _ _ => sts_nil) (fun _ _ _ _ _ => (sd_nIn S.wd cx.room.units9 (sd_var 2) (sd_fld (S.cls 1) (S.noat 25) (sd_var 1)))))) (sa_nil))))))
theorem ok_l_same (S : SYk w K mg) (base : Heap) : OkF P w K mg base (1) (He.fAd K ("_law_same", none)) ["_law_found", "_law_due"] [] l_same := by
  obtain ⟨fd, F⟩ := S.def_ 23 (d := d_l_same)
  exact okF (N := ["_law_found", "_law_due"]) rfl F sc_l_same (by decide) (fun _ _ _ _ _ _ us hl => match us, hl with | [_, _], _ => rfl) (fun cdv A outer s H E cx =>
    sb_one (ss_ret (sd_cmp op_eq os_eqT (sd_callB (cr_repr cx.hG cx.room.units61) cs_repr (S.free 35) (by rfl) (sa_cons (sd_var 0) (sa_nil))) (sd_callB (cr_repr cx.hG cx.room.units61) cs_repr (S.free 35) (by rfl) (sa_cons (sd_var 1) (sa_nil))))))
end
end MP

set_option Elab.async false
set_option linter.all false
set_option maxRecDepth 100000
set_option maxHeartbeats 8000000
namespace MP
variable [Wd]
open PySem L2
section
variable {P : Program} {w : World} {K : PySem.W.Frag} {mg : Str → Option Value}
theorem ok_c_Table_eq (S : SYk w K mg) (base : Heap) : OkF P w K mg base (2) (He.fAd K ("Table", some "__eq__")) ["self", "other"] [] c_Table_eq := by
  obtain ⟨fd, F⟩ := S.def_ 24 (d := d_c_Table_eq)
  exact okF (N := ["self", "other", "same"]) rfl F sc_c_Table_eq (by decide) (fun _ _ _ _ _ _ us hl => match us, hl with | [_, _], _ => rfl) (fun cdv A outer s H E cx =>
    sb_cons (ss_if (st_not (st_val (sd_isi (.own _) S.isi_Table (sd_var 1) (pe_glob rfl (S.glo 30) rfl) (S.free 14)))) (sb_one (ss_ret (sd_bl))) (sb_nil))
      (sb_cons (ss_set (i := 2) sc_c_Table_eq.nd (sd_and (sd_cmp (op_eqD cx.room.units) os_eq (sd_fld (S.cls 1) (S.noat 21) (sd_var 0)) (sd_fld (S.cls 1) (S.noat 21) (sd_var 1))) (sd_one (sd_cmp (op_eqD cx.room.units) os_eq (sd_fld (S.cls 1) (S.noat 22) (sd_var 0)) (sd_fld (S.cls 1) (S.noat 22) (sd_var 1))))))
      (sb_one (ss_ret (sd_and (sd_var 2) (sd_one (sd_cmp (op_eqD cx.room.units) os_eq (sd_methO0 (S.cls 1) (S.meth 33) (ok_c_Table_squares S base) cx.room (by omega) cx.hG cx.tk (sd_var 0) rfl) (sd_methO0 (S.cls 1) (S.meth 33) (ok_c_Table_squares S base) cx.room (by omega) cx.hG cx.tk (sd_var 1) rfl))))))))
theorem ok_l_compared (S : SYk w K mg) (base : Heap) : OkF P w K mg base (4) (He.fAd K ("_law_compared", none)) ["_law_tables", "_law_models"] [] l_compared := by
  obtain ⟨fd, F⟩ := S.def_ 25 (d := d_l_compared)
  exact okF (N := ["_law_tables", "_law_models", "_law_one", "_law_mine", "_law_other", "_law_theirs", "_law_told", "_law_less", "_law_square"]) rfl F sc_l_compared (by decide) (fun _ _ _ _ _ _ us hl => match us, hl with | [_, _], _ => rfl) (fun cdv A outer s H E cx =>
    sb_cons (ss_for cx.own rfl (si_zip (S.free 36) (sa_cons (sd_var 0) (sa_cons (sd_var 1) (sa_nil)))) (sg_tup rfl (sgs_cons (sg_name (i := 2) sc_l_compared.nd) (sgs_cons (sg_name (i := 3) sc_l_compared.nd) (sgs_nil) (hw := gmName_noex) (hw2 := gmNil_noex)) (hw := gmName_noex) (hw2 := (gmCons_noex gmName_noex gmNil_noex))) (gmCons_len (gmCons_len gmNil_len gmName_noex) gmName_noex)) (sb_one (ss_for cx.own rfl (si_zip (S.free 36) (sa_cons (sd_var 0) (sa_cons (sd_var 1) (sa_nil)))) (sg_tup rfl (sgs_cons (sg_name (i := 4) sc_l_compared.nd) (sgs_cons (sg_name (i := 5) sc_l_compared.nd) (sgs_nil) (hw := gmName_noex) (hw2 := gmNil_noex)) (hw := gmName_noex) (hw2 := (gmCons_noex gmName_noex gmNil_noex))) (gmCons_len (gmCons_len gmNil_len gmName_noex) gmName_noex)) (sb_cons (ss_set (i := 6) sc_l_compared.nd (sd_lst (sa_cons ((sd_eqOO (SY.eqOk_Table cx.K S) (S.meth 37).at_ (S.meth 37).fn (ok_c_Table_eq S base) cx.room (by omega) cx.hG cx.tk rfl (sd_var 2) (sd_var 4))) (sa_cons ((sd_neOO (SY.eqOk_Table cx.K S) S.ne_Table S.mro_Table (S.meth 37).at_ (S.meth 37).fn (ok_c_Table_eq S base) cx.room (by omega) cx.hG cx.tk rfl (sd_var 2) (sd_var 4))) (sa_cons (sd_methO (S.cls 1) (S.meth 38) (ok_c_Table_within S base) cx.room (by omega) cx.hG cx.tk (sd_var 2) (sa_cons (sd_var 4) (sa_nil)) (fun ρ s ds s' h => by rw [(mCons_len mNil_len) ρ s ds s' h]; rfl)) (sa_nil))))))
      (sb_cons (ss_set (i := 7) sc_l_compared.nd (sd_callB (cr_all rfl) cs_all (S.free 16) (by rfl) (sa_cons (sd_lc (own := [("_law_square", 8)]) sc_l_compared.nd (si_seq (sd_var 3)) (blkOk_by (N := ["_law_tables", "_law_models", "_law_one", "_law_mine", "_law_other", "_law_theirs", "_law_told", "_law_less", "_law_square"]) (sc := (defScope s_l_compared)) (by decide +kernel)) (fun _ _ _ _ _ => pg_name (i := 8) sc_l_compared.nd rfl (Or.inl rfl)) (gok_name (by decide)) (fun _ _ _ _ _ => sts_nil) (fun _ _ _ _ _ => sd_cmp (op_inD cx.room.units65) os_inD (sd_var 8) (sd_var 5))) (sa_nil))))
      (sb_one (ss_if (st_not (st_val (sd_callO (ok_l_same S base) cx.room (by omega) cx.hG (S.glo 39) cx.tk (sa_cons (sd_var 6) (sa_cons (sd_lst (sa_cons (sd_cmp (op_eqD cx.room.units) os_eq (sd_var 3) (sd_var 5)) (sa_cons (sd_cmp (op_neD cx.room.units) os_ne (sd_var 3) (sd_var 5)) (sa_cons (sd_var 7) (sa_nil))))) (sa_nil))) (mCons_len (mCons_len mNil_len))))) (sb_one (ss_ret (sd_bl))) (sb_nil))))) (gmTup_noex (gmCons_noex gmName_noex (gmCons_noex gmName_noex gmNil_noex))))) (gmTup_noex (gmCons_noex gmName_noex (gmCons_noex gmName_noex gmNil_noex))))
      (sb_one (ss_ret (sd_bl))))
theorem ok_l_united (S : SYk w K mg) (base : Heap) : ∀ n : Nat, OkF P w K mg base (1 + 2 * n) (He.fAd K ("_law_united", none)) ["_law_way", "_law_one", "_law_other"] [] (l_united n)
  | 0 => by
    obtain ⟨fd, F⟩ := S.def_ 26 (d := d_l_united)
    have b := F.bindsN (ps := ["_law_way", "_law_one", "_law_other"]) (fun _ _ _ _ _ _ us hl => match us, hl with | [_, _, _], _ => rfl)
    exact okF_halt (fun _ _ => rfl) ⟨fd, F.kp, b, [], .nil, b⟩
  | n + 1 => by
    have ih_l_united := ok_l_united S base n
    obtain ⟨fd, F⟩ := S.def_ 26 (d := d_l_united)
    exact okF (k := 1 + 2 * n + 1) (N := ["_law_way", "_law_one", "_law_other", "_law_more", "_law_square"]) rfl F sc_l_united (by decide) (fun _ _ _ _ _ _ us hl => match us, hl with | [_, _, _], _ => rfl) (fun cdv A outer s H E cx =>
      sb_cons (ss_if (st_cmp (op_eqD cx.room.units) os_eq (sd_var 0) (sd_int)) (sb_cons (ss_setLc (i := 3) (own := [("_law_square", 4)]) sc_l_united.nd (si_seq (sd_var 2)) (blkOk_by (N := ["_law_way", "_law_one", "_law_other", "_law_more", "_law_square"]) (sc := (defScope s_l_united)) (by decide +kernel)) (fun _ _ _ _ _ => pg_name (i := 4) sc_l_united.nd rfl (Or.inl rfl)) (gok_name (by decide)) (fun _ _ _ _ _ => sts_one (st_cmp (op_notInD cx.room.units65) os_notInD (sd_var 4) (sd_var 1))) (fun _ _ _ _ _ => sd_var 4) (by rfl))
      (sb_one (ss_ret (sd_callB (cr_sortP cx.room.units61) cs_sortP (S.free 12) (by rfl) (sa_cons (sd_bin op_addM os_add (sd_var 1) (sd_var 3)) (sa_nil)))))) (sb_nil))
      (sb_cons (ss_if (st_cmp (op_eqD cx.room.units) os_eq (sd_var 0) (sd_int)) (sb_one (ss_ret (sd_lc (own := [("_law_square", 4)]) sc_l_united.nd (si_seq (sd_var 1)) (blkOk_by (N := ["_law_way", "_law_one", "_law_other", "_law_more", "_law_square"]) (sc := (defScope s_l_united)) (by decide +kernel)) (fun _ _ _ _ _ => pg_name (i := 4) sc_l_united.nd rfl (Or.inl rfl)) (gok_name (by decide)) (fun _ _ _ _ _ => sts_one (st_cmp (op_inD cx.room.units65) os_inD (sd_var 4) (sd_var 2))) (fun _ _ _ _ _ => sd_var 4)))) (sb_nil))
      (sb_cons (ss_if (st_cmp (op_eqD cx.room.units) os_eq (sd_var 0) (sd_int)) (sb_one (ss_ret (sd_lc (own := [("_law_square", 4)]) sc_l_united.nd (si_seq (sd_var 1)) (blkOk_by (N := ["_law_way", "_law_one", "_law_other", "_law_more", "_law_square"]) (sc := (defScope s_l_united)) (by decide +kernel)) (fun _ _ _ _ _ => pg_name (i := 4) sc_l_united.nd rfl (Or.inl rfl)) (gok_name (by decide)) (fun _ _ _ _ _ => sts_one (st_cmp (op_notInD cx.room.units65) os_notInD (sd_var 4) (sd_var 2))) (fun _ _ _ _ _ => sd_var 4)))) (sb_nil))
      (sb_one (ss_ret (sd_callO (ih_l_united) cx.room (by omega) cx.hG (S.glo 40) cx.tk (sa_cons (sd_int) (sa_cons (sd_callO (ih_l_united) cx.room (by omega) cx.hG (S.glo 40) cx.tk (sa_cons (sd_int) (sa_cons (sd_var 1) (sa_cons (sd_var 2) (sa_nil)))) (mCons_len (mCons_len (mCons_len mNil_len)))) (sa_cons (sd_callO (ih_l_united) cx.room (by omega) cx.hG (S.glo 40) cx.tk (sa_cons (sd_int) (sa_cons (sd_var 2) (sa_cons (sd_var 1) (sa_nil)))) (mCons_len (mCons_len (mCons_len mNil_len)))) (sa_nil)))) (mCons_len (mCons_len (mCons_len mNil_len)))))))))
theorem ok_c_Table_put_square (S : SYk w K mg) (base : Heap) : OkF P w K mg base (1) (He.fAd K ("Table", some "put_square")) ["self", "square", "worth"] [] c_Table_put_square := by
  obtain ⟨fd, F⟩ := S.def_ 27 (d := d_c_Table_put_square)
  exact okF (N := ["self", "square", "worth"]) rfl F sc_c_Table_put_square (by decide) (fun _ _ _ _ _ _ us hl => match us, hl with | [_, _, _], _ => rfl) (fun cdv A outer s H E cx =>
    sb_one (ss_if (st_val (sd_var 2)) (sb_one (ss_nput S.wd cx.room.units9 (sd_fld (S.cls 1) (S.noat 25) (sd_var 0)) (sd_var 1) (sd_bl))) (sb_one (ss_expr (sd_npop S.wd cx.room.units9 (sd_fld (S.cls 1) (S.noat 25) (sd_var 0)) (sd_var 1) (sd_non))))))
theorem ok_c_Table_setitem (S : SYk w K mg) (base : Heap) : OkF P w K mg base (3) (He.fAd K ("Table", some "__setitem__")) ["self", "at", "worth"] [] c_Table_setitem := by
  obtain ⟨fd, F⟩ := S.def_ 28 (d := d_c_Table_setitem)
  exact okF (N := ["self", "at", "worth", "square"]) rfl F sc_c_Table_setitem (by decide) (fun _ _ _ _ _ _ us hl => match us, hl with | [_, _, _], _ => rfl) (fun cdv A outer s H E cx =>
    sb_cons (ss_set (i := 3) sc_c_Table_setitem.nd (sd_methO (S.cls 1) (S.meth 24) (ok_c_Table_known_square S base) cx.room (by omega) cx.hG cx.tk (sd_var 0) (sa_cons (sd_var 1) (sa_nil)) (fun ρ s ds s' h => by rw [(mCons_len mNil_len) ρ s ds s' h]; rfl)))
      (sb_cons (ss_if (st_w (sw_and (st_cmp op_isnot_bl os_notB (sd_var 2) (sd_bl)) (sw_and1 (st_cmp op_isnot_bl os_notB (sd_var 2) (sd_bl))))) (sb_one (ss_halt)) (sb_nil))
      (sb_one (ss_expr (sd_methO (S.cls 1) (S.meth 41) (ok_c_Table_put_square S base) cx.room (by omega) cx.hG cx.tk (sd_var 0) (sa_cons (sd_var 3) (sa_cons (sd_var 2) (sa_nil))) (fun ρ s ds s' h => by rw [(mCons_len (mCons_len mNil_len)) ρ s ds s' h]; rfl))))))
theorem ok_c_Table_other_table (S : SYk w K mg) (base : Heap) : OkF P w K mg base (5) (He.fAd K ("Table", some "other_table")) ["self", "squares"] [] c_Table_other_table := by
  obtain ⟨fd, F⟩ := S.def_ 29 (d := d_c_Table_other_table)
  exact okF (N := ["self", "squares"]) rfl F sc_c_Table_other_table (by decide) (fun _ _ _ _ _ _ us hl => match us, hl with | [_, _], _ => rfl) (fun cdv A outer s H E cx =>
    sb_one (ss_ret (sd_makeO (S.mkr 29) (ok_c_Table_init S base) cx.room (by omega) cx.hG (S.glo 30) cx.tk (sa_cons (sd_fld (S.cls 1) (S.noat 21) (sd_var 0)) (sa_cons (sd_fld (S.cls 1) (S.noat 22) (sd_var 0)) (sa_cons (sd_var 1) (sa_nil)))) (fun ρ s ds s' h => by rw [(mCons_len (mCons_len (mCons_len mNil_len))) ρ s ds s' h]; rfl))))
theorem ok_c_Table_twin (S : SYk w K mg) (base : Heap) : OkF P w K mg base (6) (He.fAd K ("Table", some "twin")) ["self"] [] c_Table_twin := by
  obtain ⟨fd, F⟩ := S.def_ 30 (d := d_c_Table_twin)
  exact okF (N := ["self"]) rfl F sc_c_Table_twin (by decide) (fun _ _ _ _ _ _ us hl => match us, hl with | [_], _ => rfl) (fun cdv A outer s H E cx =>
    sb_one (ss_ret (sd_methO (S.cls 1) (S.meth 42) (ok_c_Table_other_table S base) cx.room (by omega) cx.hG cx.tk (sd_var 0) (sa_cons (sd_methO0 (S.cls 1) (S.meth 33) (ok_c_Table_squares S base) cx.room (by omega) cx.hG cx.tk (sd_var 0) rfl) (sa_nil)) (fun ρ s ds s' h => by rw [(mCons_len mNil_len) ρ s ds s' h]; rfl))))
theorem ok_c_Table_or (S : SYk w K mg) (base : Heap) : OkF P w K mg base (6) (He.fAd K ("Table", some "__or__")) ["self", "other"] [] c_Table_or := by
  obtain ⟨fd, F⟩ := S.def_ 31 (d := d_c_Table_or)
  exact okF (N := ["self", "other"]) rfl F sc_c_Table_or (by decide) (fun _ _ _ _ _ _ us hl => match us, hl with | [_, _], _ => rfl) (fun cdv A outer s H E cx =>
    sb_cons (ss_expr (sd_methO (S.cls 1) (S.meth 34) (ok_c_Table_check S base) cx.room (by omega) cx.hG cx.tk (sd_var 0) (sa_cons (sd_var 1) (sa_nil)) (fun ρ s ds s' h => by rw [(mCons_len mNil_len) ρ s ds s' h]; rfl)))
      (sb_one (ss_ret (sd_methO (S.cls 1) (S.meth 42) (ok_c_Table_other_table S base) cx.room (by omega) cx.hG cx.tk (sd_var 0) (sa_cons (sd_bin op_addM os_add (sd_methO0 (S.cls 1) (S.meth 33) (ok_c_Table_squares S base) cx.room (by omega) cx.hG cx.tk (sd_var 0) rfl) (sd_methO0 (S.cls 1) (S.meth 33) (ok_c_Table_squares S base) cx.room (by omega) cx.hG cx.tk (sd_var 1) rfl)) (sa_nil)) (fun ρ s ds s' h => by rw [(mCons_len mNil_len) ρ s ds s' h]; rfl)))))
theorem ok_c_Table_and (S : SYk w K mg) (base : Heap) : OkF P w K mg base (6) (He.fAd K ("Table", some "__and__")) ["self", "other"] [] c_Table_and := by
  obtain ⟨fd, F⟩ := S.def_ 32 (d := d_c_Table_and)
  exact okF (N := ["self", "other", "square"]) rfl F sc_c_Table_and (by decide) (fun _ _ _ _ _ _ us hl => match us, hl with | [_, _], _ => rfl) (fun cdv A outer s H E cx =>
    sb_cons (ss_expr (sd_methO (S.cls 1) (S.meth 34) (ok_c_Table_check S base) cx.room (by omega) cx.hG cx.tk (sd_var 0) (sa_cons (sd_var 1) (sa_nil)) (fun ρ s ds s' h => by rw [(mCons_len mNil_len) ρ s ds s' h]; rfl)))
      (sb_one (ss_ret (sd_methO (S.cls 1) (S.meth 42) (ok_c_Table_other_table S base) cx.room (by omega) cx.hG cx.tk (sd_var 0) (sa_cons (sd_lc (own := [("square", 2)]) sc_c_Table_and.nd (si_seq (sd_methO0 (S.cls 1) (S.meth 33) (ok_c_Table_squares S base) cx.room (by omega) cx.hG cx.tk (sd_var 0) rfl)) (blkOk_by (N := ["self", "other", "square"]) (sc := (defScope s_c_Table_and)) (by decide +kernel)) (fun _ _ _ _ _ => pg_name (i := 2) sc_c_Table_and.nd rfl (Or.inl rfl)) (gok_name (by decide)) (fun _ _ _ _ _ => sts_one ((st_nIn S.wd cx.room.units9 (sd_var 2) (sd_fld (S.cls 1) (S.noat 25) (sd_var 1))))) (fun _ _ _ _ _ => sd_var 2)) (sa_nil)) (fun ρ s ds s' h => by rw [(mCons_len mNil_len) ρ s ds s' h]; rfl)))))
theorem ok_c_Table_sub (S : SYk w K mg) (base : Heap) : OkF P w K mg base (6) (He.fAd K ("Table", some "__sub__")) ["self", "other"] [] c_Table_sub := by
  obtain ⟨fd, F⟩ := S.def_ 33 (d := d_c_Table_sub)
  exact okF (N := ["self", "other", "square"]) rfl F sc_c_Table_sub (by decide) (fun _ _ _ _ _ _ us hl => match us, hl with | [_, _], _ => rfl) (fun cdv A outer s H E cx =>
    sb_cons (ss_expr (sd_methO (S.cls 1) (S.meth 34) (ok_c_Table_check S base) cx.room (by omega) cx.hG cx.tk (sd_var 0) (sa_cons (sd_var 1) (sa_nil)) (fun ρ s ds s' h => by rw [(mCons_len mNil_len) ρ s ds s' h]; rfl)))
      (sb_one (ss_ret (sd_methO (S.cls 1) (S.meth 42) (ok_c_Table_other_table S base) cx.room (by omega) cx.hG cx.tk (sd_var 0) (sa_cons (sd_lc (own := [("square", 2)]) sc_c_Table_sub.nd (si_seq (sd_methO0 (S.cls 1) (S.meth 33) (ok_c_Table_squares S base) cx.room (by omega) cx.hG cx.tk (sd_var 0) rfl)) (blkOk_by (N := ["self", "other", "square"]) (sc := (defScope s_c_Table_sub)) (by decide +kernel)) (fun _ _ _ _ _ => pg_name (i := 2) sc_c_Table_sub.nd rfl (Or.inl rfl)) (gok_name (by decide)) (fun _ _ _ _ _ => sts_one ((st_nNotIn S.wd cx.room.units9 (sd_var 2) (sd_fld (S.cls 1) (S.noat 25) (sd_var 1))))) (fun _ _ _ _ _ => sd_var 2)) (sa_nil)) (fun ρ s ds s' h => by rw [(mCons_len mNil_len) ρ s ds s' h]; rfl)))))
theorem ok_c_Table_xor (S : SYk w K mg) (base : Heap) : OkF P w K mg base (7) (He.fAd K ("Table", some "__xor__")) ["self", "other"] [] c_Table_xor := by
  obtain ⟨fd, F⟩ := S.def_ 34 (d := d_c_Table_xor)
  exact okF (N := ["self", "other"]) rfl F sc_c_Table_xor (by decide) (fun _ _ _ _ _ _ us hl => match us, hl with | [_, _], _ => rfl) (fun cdv A outer s H E cx =>
    sb_one (ss_ret (sd_binO (C := "Table") (op := .BitOr) rfl (SY.two_Table S) (S.meth 44).at_ (S.meth 44).fn (ok_c_Table_or S base) cx.room (by omega) cx.hG cx.tk rfl (sd_binO (C := "Table") (op := .Sub) rfl (SY.two_Table S) (S.meth 43).at_ (S.meth 43).fn (ok_c_Table_sub S base) cx.room (by omega) cx.hG cx.tk rfl (sd_var 0) (sd_var 1)) (sd_binO (C := "Table") (op := .Sub) rfl (SY.two_Table S) (S.meth 43).at_ (S.meth 43).fn (ok_c_Table_sub S base) cx.room (by omega) cx.hG cx.tk rfl (sd_var 1) (sd_var 0)))))
theorem ok_l_signed (S : SYk w K mg) (base : Heap) : OkF P w K mg base (8) (He.fAd K ("_law_signed", none)) ["_law_way", "_law_one", "_law_other"] [] l_signed := by
  obtain ⟨fd, F⟩ := S.def_ 35 (d := d_l_signed)
  exact okF (N := ["_law_way", "_law_one", "_law_other"]) rfl F sc_l_signed (by decide) (fun _ _ _ _ _ _ us hl => match us, hl with | [_, _, _], _ => rfl) (fun cdv A outer s H E cx =>
    sb_cons (ss_if (st_cmp (op_eqD cx.room.units) os_eq (sd_var 0) (sd_int)) (sb_one (ss_ret (sd_binO (C := "Table") (op := .BitOr) rfl (SY.two_Table S) (S.meth 44).at_ (S.meth 44).fn (ok_c_Table_or S base) cx.room (by omega) cx.hG cx.tk rfl (sd_var 1) (sd_var 2)))) (sb_nil))
      (sb_cons (ss_if (st_cmp (op_eqD cx.room.units) os_eq (sd_var 0) (sd_int)) (sb_one (ss_ret (sd_binO (C := "Table") (op := .BitAnd) rfl (SY.two_Table S) (S.meth 45).at_ (S.meth 45).fn (ok_c_Table_and S base) cx.room (by omega) cx.hG cx.tk rfl (sd_var 1) (sd_var 2)))) (sb_nil))
      (sb_one (ss_ret (sd_if (st_cmp (op_eqD cx.room.units) os_eq (sd_var 0) (sd_int)) (sd_binO (C := "Table") (op := .Sub) rfl (SY.two_Table S) (S.meth 43).at_ (S.meth 43).fn (ok_c_Table_sub S base) cx.room (by omega) cx.hG cx.tk rfl (sd_var 1) (sd_var 2)) (sd_binO (C := "Table") (op := .BitXor) rfl (SY.two_Table S) (S.meth 46).at_ (S.meth 46).fn (ok_c_Table_xor S base) cx.room (by omega) cx.hG cx.tk rfl (sd_var 1) (sd_var 2)))))))
end
end MP

set_option Elab.async false
set_option linter.all false
set_option maxRecDepth 100000
set_option maxHeartbeats 8000000
namespace MP
variable [Wd]
open PySem L2
section
variable {P : Program} {w : World} {K : PySem.W.Frag} {mg : Str → Option Value}
theorem ok_c_Table_become (S : SYk w K mg) (base : Heap) : OkF P w K mg base (2) (He.fAd K ("Table", some "become")) ["self", "other"] [] c_Table_become := by
  obtain ⟨fd, F⟩ := S.def_ 36 (d := d_c_Table_become)
  exact okF (N := ["self", "other", "square"]) rfl F sc_c_Table_become (by decide) (fun _ _ _ _ _ _ us hl => match us, hl with | [_, _], _ => rfl) (fun cdv A outer s H E cx =>
    sb_cons (ss_fld (S.cls 1) (S.noat 25) (sd_var 0) (sd_ndc (own := [("square", 2)]) S.wd cx.room.units8 sc_c_Table_become.nd (si_seq (sd_methO0 (S.cls 1) (S.meth 33) (ok_c_Table_squares S base) cx.room (by omega) cx.hG cx.tk (sd_var 1) rfl)) (blkOk_by (N := ["self", "other", "square"]) (sc := (defScope s_c_Table_become)) (by decide +kernel)) (fun _ _ _ _ _ => pg_name (i := 2) sc_c_Table_become.nd rfl (Or.inl rfl)) (gok_name (by decide)) (fun _ _ _ _ _ => sts_nil) (fun _ _ _ _ _ => sd_var 2) (fun _ _ _ _ _ => sd_bl)))
      (sb_one (ss_ret (sd_var 0))))
theorem ok_c_Table_ior (S : SYk w K mg) (base : Heap) : OkF P w K mg base (7) (He.fAd K ("Table", some "__ior__")) ["self", "other"] [] c_Table_ior := by
  obtain ⟨fd, F⟩ := S.def_ 37 (d := d_c_Table_ior)
  exact okF (N := ["self", "other"]) rfl F sc_c_Table_ior (by decide) (fun _ _ _ _ _ _ us hl => match us, hl with | [_, _], _ => rfl) (fun cdv A outer s H E cx =>
    sb_one (ss_ret (sd_methO (S.cls 1) (S.meth 47) (ok_c_Table_become S base) cx.room (by omega) cx.hG cx.tk (sd_var 0) (sa_cons (sd_binO (C := "Table") (op := .BitOr) rfl (SY.two_Table S) (S.meth 44).at_ (S.meth 44).fn (ok_c_Table_or S base) cx.room (by omega) cx.hG cx.tk rfl (sd_var 0) (sd_var 1)) (sa_nil)) (fun ρ s ds s' h => by rw [(mCons_len mNil_len) ρ s ds s' h]; rfl))))
theorem ok_c_Table_iand (S : SYk w K mg) (base : Heap) : OkF P w K mg base (7) (He.fAd K ("Table", some "__iand__")) ["self", "other"] [] c_Table_iand := by
  obtain ⟨fd, F⟩ := S.def_ 38 (d := d_c_Table_iand)
  exact okF (N := ["self", "other"]) rfl F sc_c_Table_iand (by decide) (fun _ _ _ _ _ _ us hl => match us, hl with | [_, _], _ => rfl) (fun cdv A outer s H E cx =>
    sb_one (ss_ret (sd_methO (S.cls 1) (S.meth 47) (ok_c_Table_become S base) cx.room (by omega) cx.hG cx.tk (sd_var 0) (sa_cons (sd_binO (C := "Table") (op := .BitAnd) rfl (SY.two_Table S) (S.meth 45).at_ (S.meth 45).fn (ok_c_Table_and S base) cx.room (by omega) cx.hG cx.tk rfl (sd_var 0) (sd_var 1)) (sa_nil)) (fun ρ s ds s' h => by rw [(mCons_len mNil_len) ρ s ds s' h]; rfl))))
theorem ok_c_Table_isub (S : SYk w K mg) (base : Heap) : OkF P w K mg base (7) (He.fAd K ("Table", some "__isub__")) ["self", "other"] [] c_Table_isub := by
  obtain ⟨fd, F⟩ := S.def_ 39 (d := d_c_Table_isub)
  exact okF (N := ["self", "other"]) rfl F sc_c_Table_isub (by decide) (fun _ _ _ _ _ _ us hl => match us, hl with | [_, _], _ => rfl) (fun cdv A outer s H E cx =>
    sb_one (ss_ret (sd_methO (S.cls 1) (S.meth 47) (ok_c_Table_become S base) cx.room (by omega) cx.hG cx.tk (sd_var 0) (sa_cons (sd_binO (C := "Table") (op := .Sub) rfl (SY.two_Table S) (S.meth 43).at_ (S.meth 43).fn (ok_c_Table_sub S base) cx.room (by omega) cx.hG cx.tk rfl (sd_var 0) (sd_var 1)) (sa_nil)) (fun ρ s ds s' h => by rw [(mCons_len mNil_len) ρ s ds s' h]; rfl))))
theorem ok_c_Table_ixor (S : SYk w K mg) (base : Heap) : OkF P w K mg base (8) (He.fAd K ("Table", some "__ixor__")) ["self", "other"] [] c_Table_ixor := by
  obtain ⟨fd, F⟩ := S.def_ 40 (d := d_c_Table_ixor)
  exact okF (N := ["self", "other"]) rfl F sc_c_Table_ixor (by decide) (fun _ _ _ _ _ _ us hl => match us, hl with | [_, _], _ => rfl) (fun cdv A outer s H E cx =>
    sb_one (ss_ret (sd_methO (S.cls 1) (S.meth 47) (ok_c_Table_become S base) cx.room (by omega) cx.hG cx.tk (sd_var 0) (sa_cons (sd_binO (C := "Table") (op := .BitXor) rfl (SY.two_Table S) (S.meth 46).at_ (S.meth 46).fn (ok_c_Table_xor S base) cx.room (by omega) cx.hG cx.tk rfl (sd_var 0) (sd_var 1)) (sa_nil)) (fun ρ s ds s' h => by rw [(mCons_len mNil_len) ρ s ds s' h]; rfl))))
theorem ok_l_in_place (S : SYk w K mg) (base : Heap) : OkF P w K mg base (9) (He.fAd K ("_law_in_place", none)) ["_law_way", "_law_one", "_law_other"] [] l_in_place := by
  obtain ⟨fd, F⟩ := S.def_ 41 (d := d_l_in_place)
  exact okF (N := ["_law_way", "_law_one", "_law_other"]) rfl F sc_l_in_place (by decide) (fun _ _ _ _ _ _ us hl => match us, hl with | [_, _, _], _ => rfl) (fun cdv A outer s H E cx =>
    sb_cons (ss_if (st_cmp (op_eqD cx.room.units) os_eq (sd_var 0) (sd_int)) (sb_one (ss_augI (i := 1) (C := "Table") (op := .BitOr) sc_l_in_place.nd rfl (SY.two_Table S) (S.meth 48).at_ (S.meth 48).fn (ok_c_Table_ior S base) cx.room (by omega) cx.hG cx.tk rfl (sd_var 2))) (sb_one (ss_if (st_cmp (op_eqD cx.room.units) os_eq (sd_var 0) (sd_int)) (sb_one (ss_augI (i := 1) (C := "Table") (op := .BitAnd) sc_l_in_place.nd rfl (SY.two_Table S) (S.meth 49).at_ (S.meth 49).fn (ok_c_Table_iand S base) cx.room (by omega) cx.hG cx.tk rfl (sd_var 2))) (sb_one (ss_if (st_cmp (op_eqD cx.room.units) os_eq (sd_var 0) (sd_int)) (sb_one (ss_augI (i := 1) (C := "Table") (op := .Sub) sc_l_in_place.nd rfl (SY.two_Table S) (S.meth 50).at_ (S.meth 50).fn (ok_c_Table_isub S base) cx.room (by omega) cx.hG cx.tk rfl (sd_var 2))) (sb_one (ss_augI (i := 1) (C := "Table") (op := .BitXor) sc_l_in_place.nd rfl (SY.two_Table S) (S.meth 51).at_ (S.meth 51).fn (ok_c_Table_ixor S base) cx.room (by omega) cx.hG cx.tk rfl (sd_var 2))))))))
      (sb_one (ss_ret (sd_var 1))))
theorem ok_l_deed (S : SYk w K mg) (base : Heap) : OkF P w K mg base (42) (He.fAd K ("_law_deed", none)) ["_law_stream", "_law_tables", "_law_models", "_law_squares_here"] [] l_deed := by
  obtain ⟨fd, F⟩ := S.def_ 42 (d := d_l_deed)
  exact okF (N := ["_law_stream", "_law_tables", "_law_models", "_law_squares_here", "_law_kind", "_law_k", "_law_j", "_law_way", "_law_worth", "_law_table", "_law_spot", "_law_cell", "_law_letter", "_law_held"]) rfl F sc_l_deed (by decide) (fun _ _ _ _ _ _ us hl => match us, hl with | [_, _, _, _], _ => rfl) (fun cdv A outer s H E cx =>
    sb_cons (ss_par3 (i := 5) (j := 6) (l := 7) sc_l_deed.nd (sa_cons (sd_callO (ok_l_draw S base) cx.room (by omega) cx.hG (S.glo 7) cx.tk (sa_cons (sd_var 0) (sa_cons (sd_int) (sa_nil))) (mCons_len (mCons_len mNil_len))) (sa_cons (sd_callO (ok_l_draw S base) cx.room (by omega) cx.hG (S.glo 7) cx.tk (sa_cons (sd_var 0) (sa_cons (sd_int) (sa_nil))) (mCons_len (mCons_len mNil_len))) (sa_cons (sd_callO (ok_l_draw S base) cx.room (by omega) cx.hG (S.glo 7) cx.tk (sa_cons (sd_var 0) (sa_cons (sd_int) (sa_nil))) (mCons_len (mCons_len mNil_len))) (sa_nil)))))
      (sb_cons (ss_set (i := 4) sc_l_deed.nd (sd_callO (ok_l_draw S base) cx.room (by omega) cx.hG (S.glo 7) cx.tk (sa_cons (sd_var 0) (sa_cons (sd_int) (sa_nil))) (mCons_len (mCons_len mNil_len))))
      (sb_cons (ss_if (st_w (sw_and (st_cmp (op_eqD cx.room.units) os_eq (sd_var 4) (sd_int)) (sw_and1 (st_cmp (op_neN cx.room.units) os_nil (sd_var 3) (sd_lst (sa_nil)))))) (sb_cons (ss_asg (sd_tup (sa_cons (sd_callO (ok_l_pick S base) cx.room (by omega) cx.hG (S.glo 9) cx.tk (sa_cons (sd_var 0) (sa_cons (sd_var 3) (sa_nil))) (mCons_len (mCons_len mNil_len))) (sa_cons (sd_cmp (op_eqD cx.room.units) os_eq (sd_callO (ok_l_draw S base) cx.room (by omega) cx.hG (S.glo 7) cx.tk (sa_cons (sd_var 0) (sa_cons (sd_int) (sa_nil))) (mCons_len (mCons_len mNil_len))) (sd_int)) (sa_nil)))) (sg_tup rfl (sgs_cons (sg_tup rfl (sgs_cons (sg_name (i := 11) sc_l_deed.nd) (sgs_cons (sg_name (i := 12) sc_l_deed.nd) (sgs_nil) (hw := gmName_noex) (hw2 := gmNil_noex)) (hw := gmName_noex) (hw2 := (gmCons_noex gmName_noex gmNil_noex))) (gmCons_len (gmCons_len gmNil_len gmName_noex) gmName_noex)) (sgs_cons (sg_name (i := 8) sc_l_deed.nd) (sgs_nil) (hw := gmName_noex) (hw2 := gmNil_noex)) (hw := (gmTup_noex (gmCons_noex gmName_noex (gmCons_noex gmName_noex gmNil_noex)))) (hw2 := (gmCons_noex gmName_noex gmNil_noex))) (gmCons_len (gmCons_len gmNil_len gmName_noex) (gmTup_noex (gmCons_noex gmName_noex (gmCons_noex gmName_noex gmNil_noex))))) (gmTup_noex (gmCons_noex (gmTup_noex (gmCons_noex gmName_noex (gmCons_noex gmName_noex gmNil_noex))) (gmCons_noex gmName_noex gmNil_noex))))
      (sb_cons (ss_par (i := 9) (j := 7) sc_l_deed.nd (sa_cons (sd_ix ix_seq os_ix (sd_var 1) (sd_var 5)) (sa_cons (sd_callO (ok_l_draw S base) cx.room (by omega) cx.hG (S.glo 7) cx.tk (sa_cons (sd_var 0) (sa_cons (sd_int) (sa_nil))) (mCons_len (mCons_len mNil_len))) (sa_nil))))
      (sb_cons (ss_if (st_cmp (op_eqD cx.room.units) os_eq (sd_var 7) (sd_int)) (sb_one (ss_itSet (SY.itm_Table___setitem__ S) (ok_c_Table_setitem S base) cx.room (by omega) cx.hG cx.tk rfl (sd_var 9) (sd_tup (sa_cons (sd_var 11) (sa_cons (sd_var 12) (sa_nil)))) (sd_var 8))) (sb_cons (ss_set (i := 10) sc_l_deed.nd (sd_lst (sa_cons (sd_var 11) (sa_cons (sd_var 12) (sa_nil)))))
      (sb_one (ss_itSet (SY.itm_Table___setitem__ S) (ok_c_Table_setitem S base) cx.room (by omega) cx.hG cx.tk rfl (sd_var 9) (sd_var 10) (sd_var 8)))))
      (sb_one (ss_asg (sd_callO (ok_l_united S base 20) cx.room (by omega) cx.hG (S.glo 40) cx.tk (sa_cons (sd_if (st_val (sd_var 8)) (sd_int) (sd_int)) (sa_cons (sd_ix ix_seq os_ix (sd_var 2) (sd_var 5)) (sa_cons (sd_lst (sa_cons (sd_tup (sa_cons (sd_var 11) (sa_cons (sd_var 12) (sa_nil)))) (sa_nil))) (sa_nil)))) (mCons_len (mCons_len (mCons_len mNil_len)))) (sg_sub (pg_sub (sd_var 2) (sd_var 5) set_list (by intro _; rfl))) gmSub_noex))))) (sb_one (ss_if (st_cmp (op_eqD cx.room.units) os_eq (sd_var 4) (sd_int)) (sb_cons (ss_asg (sd_methO0 (S.cls 1) (S.meth 52) (ok_c_Table_twin S base) cx.room (by omega) cx.hG cx.tk (sd_ix ix_seq os_ix (sd_var 1) (sd_var 6)) rfl) (sg_sub (pg_sub (sd_var 1) (sd_var 5) set_list (by intro _; rfl))) gmSub_noex)
      (sb_one (ss_asg (sd_ix ix_seq os_ix (sd_var 2) (sd_var 6)) (sg_sub (pg_sub (sd_var 2) (sd_var 5) set_list (by intro _; rfl))) gmSub_noex))) (sb_one (ss_if (st_cmp (op_eqD cx.room.units) os_eq (sd_var 4) (sd_int)) (sb_cons (ss_asg (sd_callO (ok_l_signed S base) cx.room (by omega) cx.hG (S.glo 53) cx.tk (sa_cons (sd_var 7) (sa_cons (sd_ix ix_seq os_ix (sd_var 1) (sd_var 6)) (sa_cons (sd_ix ix_seq os_ix (sd_var 1) (sd_var 5)) (sa_nil)))) (mCons_len (mCons_len (mCons_len mNil_len)))) (sg_sub (pg_sub (sd_var 1) (sd_var 5) set_list (by intro _; rfl))) gmSub_noex)
      (sb_one (ss_asg (sd_callO (ok_l_united S base 20) cx.room (by omega) cx.hG (S.glo 40) cx.tk (sa_cons (sd_var 7) (sa_cons (sd_ix ix_seq os_ix (sd_var 2) (sd_var 6)) (sa_cons (sd_ix ix_seq os_ix (sd_var 2) (sd_var 5)) (sa_nil)))) (mCons_len (mCons_len (mCons_len mNil_len)))) (sg_sub (pg_sub (sd_var 2) (sd_var 5) set_list (by intro _; rfl))) gmSub_noex))) (sb_cons (ss_set (i := 13) sc_l_deed.nd (sd_ix ix_seq os_ix (sd_var 1) (sd_var 5)))
      (sb_cons (ss_asg (sd_callO (ok_l_in_place S base) cx.room (by omega) cx.hG (S.glo 54) cx.tk (sa_cons (sd_var 7) (sa_cons (sd_ix ix_seq os_ix (sd_var 1) (sd_var 5)) (sa_cons (sd_ix ix_seq os_ix (sd_var 1) (sd_var 6)) (sa_nil)))) (mCons_len (mCons_len (mCons_len mNil_len)))) (sg_sub (pg_sub (sd_var 1) (sd_var 5) set_list (by intro _; rfl))) gmSub_noex)
      (sb_cons (ss_asg (sd_callO (ok_l_united S base 20) cx.room (by omega) cx.hG (S.glo 40) cx.tk (sa_cons (sd_var 7) (sa_cons (sd_ix ix_seq os_ix (sd_var 2) (sd_var 5)) (sa_cons (sd_ix ix_seq os_ix (sd_var 2) (sd_var 6)) (sa_nil)))) (mCons_len (mCons_len (mCons_len mNil_len)))) (sg_sub (pg_sub (sd_var 2) (sd_var 5) set_list (by intro _; rfl))) gmSub_noex)
      (sb_one (ss_ret (sd_cmp (op_eqD cx.room.units) os_eq (sd_methO0 (S.cls 1) (S.meth 33) (ok_c_Table_squares S base) cx.room (by omega) cx.hG cx.tk (sd_var 13) rfl) (sd_ix ix_seq os_ix (sd_var 2) (sd_var 5)))))))))))))
      (sb_one (ss_ret (sd_bl))))))
theorem ok_c_Table_cells (S : SYk w K mg) (base : Heap) : OkF P w K mg base (1) (He.fAd K ("Table", some "cells")) ["self"] [] c_Table_cells := by
  obtain ⟨fd, F⟩ := S.def_ 43 (d := d_c_Table_cells)
  exact okF (N := ["self"]) rfl F sc_c_Table_cells (by decide) (fun _ _ _ _ _ _ us hl => match us, hl with | [_], _ => rfl) (fun cdv A outer s H E cx =>
    sb_one (ss_ret (sd_callTy call_list_of cs_list (S.free 4) (by rfl) (sa_cons (sd_fld (S.cls 1) (S.noat 21) (sd_var 0)) (sa_nil)))))
theorem ok_c_Table_ways (S : SYk w K mg) (base : Heap) : OkF P w K mg base (1) (He.fAd K ("Table", some "ways")) ["self"] [] c_Table_ways := by
  obtain ⟨fd, F⟩ := S.def_ 44 (d := d_c_Table_ways)
  exact okF (N := ["self"]) rfl F sc_c_Table_ways (by decide) (fun _ _ _ _ _ _ us hl => match us, hl with | [_], _ => rfl) (fun cdv A outer s H E cx =>
    sb_one (ss_ret (sd_callTy call_list_of cs_list (S.free 4) (by rfl) (sa_cons (sd_fld (S.cls 1) (S.noat 22) (sd_var 0)) (sa_nil)))))
theorem ok_c_Table_getitem (S : SYk w K mg) (base : Heap) : OkF P w K mg base (3) (He.fAd K ("Table", some "__getitem__")) ["self", "at"] [] c_Table_getitem := by
  obtain ⟨fd, F⟩ := S.def_ 45 (d := d_c_Table_getitem)
  exact okF (N := ["self", "at"]) rfl F sc_c_Table_getitem (by decide) (fun _ _ _ _ _ _ us hl => match us, hl with | [_, _], _ => rfl) (fun cdv A outer s H E cx =>
    sb_one (ss_ret ((sd_nIn S.wd cx.room.units9 (sd_methO (S.cls 1) (S.meth 24) (ok_c_Table_known_square S base) cx.room (by omega) cx.hG cx.tk (sd_var 0) (sa_cons (sd_var 1) (sa_nil)) (fun ρ s ds s' h => by rw [(mCons_len mNil_len) ρ s ds s' h]; rfl)) (sd_fld (S.cls 1) (S.noat 25) (sd_var 0))))))
theorem ok_c_Table_contains (S : SYk w K mg) (base : Heap) : OkF P w K mg base (2) (He.fAd K ("Table", some "__contains__")) ["self", "thing"] [] c_Table_contains := by
  obtain ⟨fd, F⟩ := S.def_ 46 (d := d_c_Table_contains)
  exact okF (N := ["self", "thing", "square"]) rfl F sc_c_Table_contains (by decide) (fun _ _ _ _ _ _ us hl => match us, hl with | [_, _], _ => rfl) (fun cdv A outer s H E cx =>
    sb_one (ss_ret (sd_and (sd_callO (ok_p_is_list S base) cx.room (by omega) cx.hG (S.glo 20) cx.tk (sa_cons (sd_var 1) (sa_nil)) (mCons_len mNil_len)) (sd_one (sd_callB (cr_any rfl) cs_any (S.free 55) (by rfl) (sa_cons (sd_heldFE 0 "back" (sd_lc (own := [("square", 2)]) sc_c_Table_contains.nd (si_keysN S.wd (sd_fld (S.cls 1) (S.noat 25) (sd_var 0))) (blkOk_by (N := ["self", "thing", "square"]) (sc := (defScope s_c_Table_contains)) (by decide +kernel)) (fun _ _ _ _ _ => pg_name (i := 2) sc_c_Table_contains.nd rfl (Or.inl rfl)) (gok_name (by decide)) (fun _ _ _ _ _ => sts_nil) (fun _ _ _ _ _ => sd_cmp (op_eqD cx.room.units) os_eq (sd_callTy call_tuple_of cs_tuple (S.free 19) (by rfl) (sa_cons (sd_var 1) (sa_nil))) (sd_var 2)))) (sa_nil)))))))
theorem ok_c_Table_len (S : SYk w K mg) (base : Heap) : OkF P w K mg base (1) (He.fAd K ("Table", some "__len__")) ["self"] [] c_Table_len := by
  obtain ⟨fd, F⟩ := S.def_ 47 (d := d_c_Table_len)
  exact okF (N := ["self"]) rfl F sc_c_Table_len (by decide) (fun _ _ _ _ _ _ us hl => match us, hl with | [_], _ => rfl) (fun cdv A outer s H E cx =>
    sb_one (ss_ret (sd_callB call_lenN (cs_lenN S.wd) (S.free 6) boot_len (sa_cons (sd_fld (S.cls 1) (S.noat 25) (sd_var 0)) (sa_nil)))))
end
end MP

set_option Elab.async false
set_option linter.all false
set_option maxRecDepth 100000
set_option maxHeartbeats 8000000
namespace MP
variable [Wd]
open PySem L2
section
variable {P : Program} {w : World} {K : PySem.W.Frag} {mg : Str → Option Value}
theorem ok_l_table_shows (S : SYk w K mg) (base : Heap) : OkF P w K mg base (5) (He.fAd K ("_law_table_shows", none)) ["_law_table", "_law_cells", "_law_ways", "_law_squares_here"] [] l_table_shows := by
  obtain ⟨fd, F⟩ := S.def_ 48 (d := d_l_table_shows)
  exact okF (N := ["_law_table", "_law_cells", "_law_ways", "_law_squares_here", "_law_told", "_law_square", "_law_spot", "_law_cell", "_law_way"]) rfl F sc_l_table_shows (by decide) (fun _ _ _ _ _ _ us hl => match us, hl with | [_, _, _, _], _ => rfl) (fun cdv A outer s H E cx =>
    sb_cons (ss_set (i := 4) sc_l_table_shows.nd (sd_lst (sa_cons (sd_methO0 (S.cls 1) (S.meth 31) (ok_c_Table_cells S base) cx.room (by omega) cx.hG cx.tk (sd_var 0) rfl) (sa_cons (sd_methO0 (S.cls 1) (S.meth 32) (ok_c_Table_ways S base) cx.room (by omega) cx.hG cx.tk (sd_var 0) rfl) (sa_cons (sd_methO0 (S.cls 1) (S.meth 33) (ok_c_Table_squares S base) cx.room (by omega) cx.hG cx.tk (sd_var 0) rfl) (sa_cons (sd_lenOO (S.meth 56).at_ (S.meth 56).fn (ok_c_Table_len S base) cx.room (by omega) cx.hG cx.tk (sd_var 0) (S.free 6) rfl) (sa_nil)))))))
      (sb_cons (ss_if (st_not (st_val (sd_callO (ok_l_same S base) cx.room (by omega) cx.hG (S.glo 39) cx.tk (sa_cons (sd_var 4) (sa_cons (sd_lst (sa_cons (sd_var 1) (sa_cons (sd_var 2) (sa_cons (sd_var 3) (sa_cons (sd_callB call_len cs_len (S.free 6) boot_len (sa_cons (sd_var 3) (sa_nil))) (sa_nil)))))) (sa_nil))) (mCons_len (mCons_len mNil_len))))) (sb_one (ss_ret (sd_bl))) (sb_nil))
      (sb_cons (ss_for cx.own rfl (si_seq (sd_callO (ok_l_squares S base) cx.room (by omega) cx.hG (S.glo 57) cx.tk (sa_cons (sd_var 1) (sa_cons (sd_var 2) (sa_nil))) (mCons_len (mCons_len mNil_len)))) (sg_name (i := 5) sc_l_table_shows.nd) (sb_cons (ss_asg (sd_var 5) (sg_tup rfl (sgs_cons (sg_name (i := 7) sc_l_table_shows.nd) (sgs_cons (sg_name (i := 8) sc_l_table_shows.nd) (sgs_nil) (hw := gmName_noex) (hw2 := gmNil_noex)) (hw := gmName_noex) (hw2 := (gmCons_noex gmName_noex gmNil_noex))) (gmCons_len (gmCons_len gmNil_len gmName_noex) gmName_noex)) (gmTup_noex (gmCons_noex gmName_noex (gmCons_noex gmName_noex gmNil_noex))))
      (sb_cons (ss_set (i := 6) sc_l_table_shows.nd (sd_lst (sa_cons (sd_var 7) (sa_cons (sd_var 8) (sa_nil)))))
      (sb_cons (ss_set (i := 4) sc_l_table_shows.nd (sd_lst (sa_cons (sd_itO (SY.itm_Table___getitem__ S) (ok_c_Table_getitem S base) cx.room (by omega) cx.hG cx.tk rfl (sd_var 0) (sd_tup (sa_cons (sd_var 7) (sa_cons (sd_var 8) (sa_nil))))) (sa_cons (sd_itO (SY.itm_Table___getitem__ S) (ok_c_Table_getitem S base) cx.room (by omega) cx.hG cx.tk rfl (sd_var 0) (sd_var 6)) (sa_nil)))))
      (sb_cons (ss_set (i := 4) sc_l_table_shows.nd (sd_bin op_addM os_add (sd_var 4) (sd_lst (sa_cons (sd_inO (C := "Table") (S.meth 58).at_ (S.meth 58).fn (ok_c_Table_contains S base) cx.room (by omega) cx.hG cx.tk rfl (sd_var 5) (sd_var 0)) (sa_cons (sd_inO (C := "Table") (S.meth 58).at_ (S.meth 58).fn (ok_c_Table_contains S base) cx.room (by omega) cx.hG cx.tk rfl (sd_var 6) (sd_var 0)) (sa_nil))))))
      (sb_one (ss_if (st_not (st_val (sd_callO (ok_l_same S base) cx.room (by omega) cx.hG (S.glo 39) cx.tk (sa_cons (sd_var 4) (sa_cons (sd_bin op_mulL os_mulL (sd_lst (sa_cons (sd_cmp (op_inD cx.room.units65) os_inD (sd_var 5) (sd_var 3)) (sa_nil))) (sd_int)) (sa_nil))) (mCons_len (mCons_len mNil_len))))) (sb_one (ss_ret (sd_bl))) (sb_nil))))))) gmName_noex)
      (sb_one (ss_ret (sd_bl))))))
theorem fnG_law_ (S : SYk w K mg) (base : Heap) {fd : FuncData} (F : FunD K "law" "law" (defArgs s_law_) (defBody s_law_) (defScope s_law_) (d_law_.dvs K) (d_law_.kws K) (He.fAd K ("law", none)) fd) : FnG P w K mg base 44 (He.fAd K ("law", none)) fd ["_law_script"] (spM K 1 law_) :=
  fn_ok (N := ["_law_script", "_law_stream", "_law_turn", "_law_squares_here", "_law_models", "_law_tables", "_law_deed_here", "_law_spare", "_law_other", "_law_moved", "_law_pair", "_law_others", "_law_cells", "_law_ways", "_law_k", "_law_model", "_law_table", "_law_name_here", "_law_way", "_law_thing"]) F sc_law_ (by decide) (fun cdv A outer s H E cx =>
  sb_cons (ss_set (i := 1) sc_law_.nd (sd_callO (ok_l_start S base) cx.room (by omega) cx.hG (S.glo 59) cx.tk (sa_cons (sd_var 0) (sa_nil)) (mCons_len mNil_len)))
      (sb_cons (ss_for cx.own rfl (si_range (S.free 8) (sa_cons (sd_int) (sa_nil))) (sg_name (i := 2) sc_law_.nd) (sb_cons (ss_asg (sd_callO (ok_l_grid S base) cx.room (by omega) cx.hG (S.glo 60) cx.tk (sa_cons (sd_var 1) (sa_nil)) (mCons_len mNil_len)) (sg_tup rfl (sgs_cons (sg_name (i := 12) sc_law_.nd) (sgs_cons (sg_name (i := 13) sc_law_.nd) (sgs_nil) (hw := gmName_noex) (hw2 := gmNil_noex)) (hw := gmName_noex) (hw2 := (gmCons_noex gmName_noex gmNil_noex))) (gmCons_len (gmCons_len gmNil_len gmName_noex) gmName_noex)) (gmTup_noex (gmCons_noex gmName_noex (gmCons_noex gmName_noex gmNil_noex))))
      (sb_cons (ss_set (i := 3) sc_law_.nd (sd_callO (ok_l_squares S base) cx.room (by omega) cx.hG (S.glo 57) cx.tk (sa_cons (sd_var 12) (sa_cons (sd_var 13) (sa_nil))) (mCons_len (mCons_len mNil_len))))
      (sb_cons (ss_setLcB (i := 4) (own := [("_law_k", 14)]) sc_law_.nd (si_range (S.free 8) (sa_cons (sd_int) (sa_nil))) (blkOk_by (N := ["_law_script", "_law_stream", "_law_turn", "_law_squares_here", "_law_models", "_law_tables", "_law_deed_here", "_law_spare", "_law_other", "_law_moved", "_law_pair", "_law_others", "_law_cells", "_law_ways", "_law_k", "_law_model", "_law_table", "_law_name_here", "_law_way", "_law_thing"]) (sc := (defScope s_law_)) (by decide +kernel)) (fun _ _ _ _ _ => pg_name (i := 14) sc_law_.nd rfl (Or.inl rfl)) (gok_name (by decide)) (fun _ _ _ _ _ => sts_nil) (fun _ _ _ _ _ => sd_callO (ok_l_some S base) cx.room (by omega) cx.hG (S.glo 61) takes0 (sa_cons (sd_var 1) (sa_cons (sd_var 3) (sa_nil))) (mCons_len (mCons_len mNil_len))) (by rfl))
      (sb_cons (ss_set (i := 5) sc_law_.nd (sd_lcB (own := [("_law_model", 15)]) sc_law_.nd (si_seq (sd_var 4)) (blkOk_by (N := ["_law_script", "_law_stream", "_law_turn", "_law_squares_here", "_law_models", "_law_tables", "_law_deed_here", "_law_spare", "_law_other", "_law_moved", "_law_pair", "_law_others", "_law_cells", "_law_ways", "_law_k", "_law_model", "_law_table", "_law_name_here", "_law_way", "_law_thing"]) (sc := (defScope s_law_)) (by decide +kernel)) (fun _ _ _ _ _ => pg_name (i := 15) sc_law_.nd rfl (Or.inl rfl)) (gok_name (by decide)) (fun _ _ _ _ _ => sts_nil) (fun _ _ _ _ _ => sd_callO (ok_l_made S base) cx.room (by omega) cx.hG (S.glo 62) takes0 (sa_cons (sd_var 1) (sa_cons (sd_var 12) (sa_cons (sd_var 13) (sa_cons (sd_var 15) (sa_nil))))) (mCons_len (mCons_len (mCons_len (mCons_len mNil_len)))))))
      (sb_cons (ss_for cx.own rfl (si_range (S.free 8) (sa_cons (sd_int) (sa_nil))) (sg_name (i := 6) sc_law_.nd) (sb_cons (ss_for cx.own rfl (si_zip (S.free 36) (sa_cons (sd_var 5) (sa_cons (sd_var 4) (sa_nil)))) (sg_tup rfl (sgs_cons (sg_name (i := 16) sc_law_.nd) (sgs_cons (sg_name (i := 15) sc_law_.nd) (sgs_nil) (hw := gmName_noex) (hw2 := gmNil_noex)) (hw := gmName_noex) (hw2 := (gmCons_noex gmName_noex gmNil_noex))) (gmCons_len (gmCons_len gmNil_len gmName_noex) gmName_noex)) (sb_one (ss_if (st_not (st_val (sd_callO (ok_l_table_shows S base) cx.room (by omega) cx.hG (S.glo 63) cx.tk (sa_cons (sd_var 16) (sa_cons (sd_var 12) (sa_cons (sd_var 13) (sa_cons (sd_var 15) (sa_nil))))) (mCons_len (mCons_len (mCons_len (mCons_len mNil_len))))))) (sb_one (ss_ret (sd_bl))) (sb_nil))) (gmTup_noex (gmCons_noex gmName_noex (gmCons_noex gmName_noex gmNil_noex))))
      (sb_cons (ss_if (st_not (st_val (sd_callO (ok_l_compared S base) cx.room (by omega) cx.hG (S.glo 64) cx.tk (sa_cons (sd_var 5) (sa_cons (sd_var 4) (sa_nil))) (mCons_len (mCons_len mNil_len))))) (sb_one (ss_ret (sd_bl))) (sb_nil))
      (sb_one (ss_if (st_not (st_val (sd_callO (ok_l_deed S base) cx.room (by omega) cx.hG (S.glo 65) cx.tk (sa_cons (sd_var 1) (sa_cons (sd_var 5) (sa_cons (sd_var 4) (sa_cons (sd_var 3) (sa_nil))))) (mCons_len (mCons_len (mCons_len (mCons_len mNil_len))))))) (sb_one (ss_ret (sd_bl))) (sb_nil))))) gmName_noex)
      (sb_cons (ss_setLc (i := 7) (own := [("_law_name_here", 17)]) sc_law_.nd (si_seq (sd_lst (sa_cons (sd_str) (sa_cons (sd_str) (sa_cons (sd_str) (sa_cons (sd_str) (sa_nil))))))) (blkOk_by (N := ["_law_script", "_law_stream", "_law_turn", "_law_squares_here", "_law_models", "_law_tables", "_law_deed_here", "_law_spare", "_law_other", "_law_moved", "_law_pair", "_law_others", "_law_cells", "_law_ways", "_law_k", "_law_model", "_law_table", "_law_name_here", "_law_way", "_law_thing"]) (sc := (defScope s_law_)) (by decide +kernel)) (fun _ _ _ _ _ => pg_name (i := 17) sc_law_.nd rfl (Or.inl rfl)) (gok_name (by decide)) (fun _ _ _ _ _ => sts_one (st_cmp op_notInM os_notIn (sd_var 17) (sd_var 12))) (fun _ _ _ _ _ => sd_var 17) (by rfl))
      (sb_cons (ss_set (i := 8) sc_law_.nd (sd_makeO (S.mkr 29) (ok_c_Table_init S base) cx.room (by omega) cx.hG (S.glo 30) cx.tk (sa_cons (sd_bin op_addM os_add (sd_var 12) (sd_slice (sd_var 7) (so_none) (so_some (sd_int)))) (sa_cons (sd_var 13) (sa_cons (sd_ix ix_seq os_ix (sd_var 4) (sd_int)) (sa_nil)))) (fun ρ s ds s' h => by rw [(mCons_len (mCons_len (mCons_len mNil_len))) ρ s ds s' h]; rfl)))
      (sb_cons (ss_if (st_w (sw_or ((sd_eqOOT (SY.eqOk_Table cx.K S) (S.meth 37).at_ (S.meth 37).fn (ok_c_Table_eq S base) cx.room (by omega) cx.hG cx.tk rfl (sd_var 8) (sd_ix ix_seq os_ix (sd_var 5) (sd_int)))) (sw_or1 (st_not ((sd_neOOT (SY.eqOk_Table cx.K S) S.ne_Table S.mro_Table (S.meth 37).at_ (S.meth 37).fn (ok_c_Table_eq S base) cx.room (by omega) cx.hG cx.tk rfl (sd_ix ix_seq os_ix (sd_var 5) (sd_int)) (sd_var 8))))))) (sb_one (ss_ret (sd_bl))) (sb_nil))
      (sb_cons (ss_setLc (i := 9) (own := [("_law_way", 18)]) sc_law_.nd (si_seq (sd_slice (sd_var 13) (so_none) (so_some (sd_int)))) (blkOk_by (N := ["_law_script", "_law_stream", "_law_turn", "_law_squares_here", "_law_models", "_law_tables", "_law_deed_here", "_law_spare", "_law_other", "_law_moved", "_law_pair", "_law_others", "_law_cells", "_law_ways", "_law_k", "_law_model", "_law_table", "_law_name_here", "_law_way", "_law_thing"]) (sc := (defScope s_law_)) (by decide +kernel)) (fun _ _ _ _ _ => pg_name (i := 18) sc_law_.nd rfl (Or.inl rfl)) (gok_name (by decide)) (fun _ _ _ _ _ => sts_one (st_cmp op_notInM os_notIn (sd_var 18) (sd_var 12))) (fun _ _ _ _ _ => sd_var 18) (by rfl))
      (sb_cons (ss_set (i := 10) sc_law_.nd (sd_tup (sa_cons (sd_makeD (S.mkr 29) (ok_c_Table_init S base) cx.room (by omega) cx.hG (S.glo 30) S.dfl_c_Table_init cx.tk (sa_cons (sd_bin op_addM os_add (sd_var 12) (sd_var 9)) (sa_cons (sd_slice (sd_var 13) (so_some (sd_callB call_len cs_len (S.free 6) boot_len (sa_cons (sd_var 9) (sa_nil)))) (so_none)) (sa_nil))) (fun ρ s ds s' h => by rw [(mCons_len (mCons_len mNil_len)) ρ s ds s' h]; rfl)) (sa_cons (sd_makeD (S.mkr 29) (ok_c_Table_init S base) cx.room (by omega) cx.hG (S.glo 30) S.dfl_c_Table_init cx.tk (sa_cons (sd_var 12) (sa_cons (sd_var 13) (sa_nil))) (fun ρ s ds s' h => by rw [(mCons_len (mCons_len mNil_len)) ρ s ds s' h]; rfl)) (sa_nil)))))
      (sb_cons (ss_if (st_w (sw_and (st_cmp (op_neN cx.room.units) os_nil (sd_var 9) (sd_lst (sa_nil))) (sw_and1 (st_w (sw_or ((sd_eqOOT (SY.eqOk_Table cx.K S) (S.meth 37).at_ (S.meth 37).fn (ok_c_Table_eq S base) cx.room (by omega) cx.hG cx.tk rfl (sd_ix ix_seq os_ix (sd_var 10) (sd_int)) (sd_ix ix_seq os_ix (sd_var 10) (sd_int)))) (sw_or1 (st_not ((sd_neOOT (SY.eqOk_Table cx.K S) S.ne_Table S.mro_Table (S.meth 37).at_ (S.meth 37).fn (ok_c_Table_eq S base) cx.room (by omega) cx.hG cx.tk rfl (sd_ix ix_seq os_ix (sd_var 10) (sd_int)) (sd_ix ix_seq os_ix (sd_var 10) (sd_int))))))))))) (sb_one (ss_ret (sd_bl))) (sb_nil))
      (sb_cons (ss_set (i := 11) sc_law_.nd (sd_lst (sa_cons (sd_ix ix_seq os_ix (sd_var 4) (sd_int)) (sa_cons (sd_callTy call_tuple_of cs_tuple (S.free 19) (by rfl) (sa_cons (sd_ix ix_seq os_ix (sd_var 4) (sd_int)) (sa_nil))) (sa_cons (sd_var 3) (sa_cons (sd_non) (sa_cons (sd_bl) (sa_nil))))))))
      (sb_one (ss_if (st_val (sd_callB (cr_any rfl) cs_any (S.free 55) (by rfl) (sa_cons (sd_lc (own := [("_law_thing", 19)]) sc_law_.nd (si_seq (sd_var 11)) (blkOk_by (N := ["_law_script", "_law_stream", "_law_turn", "_law_squares_here", "_law_models", "_law_tables", "_law_deed_here", "_law_spare", "_law_other", "_law_moved", "_law_pair", "_law_others", "_law_cells", "_law_ways", "_law_k", "_law_model", "_law_table", "_law_name_here", "_law_way", "_law_thing"]) (sc := (defScope s_law_)) (by decide +kernel)) (fun _ _ _ _ _ => pg_name (i := 19) sc_law_.nd rfl (Or.inl rfl)) (gok_name (by decide)) (fun _ _ _ _ _ => sts_nil) (fun _ _ _ _ _ => (sd_eqOO (SY.eqOk_Table cx.K S) (S.meth 37).at_ (S.meth 37).fn (ok_c_Table_eq S base) cx.room (by omega) cx.hG takes0 rfl (sd_ix ix_seq os_ix (sd_var 5) (sd_int)) (sd_var 19)))) (sa_nil)))) (sb_one (ss_ret (sd_bl))) (sb_nil))))))))))))))) gmName_noex)
      (sb_cons (ss_if (st_w (sw_or ((sd_eqOOT (SY.eqOk_Table cx.K S) (S.meth 37).at_ (S.meth 37).fn (ok_c_Table_eq S base) cx.room (by omega) cx.hG cx.tk rfl (sd_makeD (S.mkr 29) (ok_c_Table_init S base) cx.room (by omega) cx.hG (S.glo 30) S.dfl_c_Table_init cx.tk (sa_cons (sd_lst (sa_cons (sd_str) (sa_nil))) (sa_cons (sd_lst (sa_cons (sd_str) (sa_nil))) (sa_nil))) (fun ρ s ds s' h => by rw [(mCons_len (mCons_len mNil_len)) ρ s ds s' h]; rfl)) (sd_makeD (S.mkr 29) (ok_c_Table_init S base) cx.room (by omega) cx.hG (S.glo 30) S.dfl_c_Table_init cx.tk (sa_cons (sd_lst (sa_cons (sd_str) (sa_cons (sd_str) (sa_nil)))) (sa_cons (sd_lst (sa_nil)) (sa_nil))) (fun ρ s ds s' h => by rw [(mCons_len (mCons_len mNil_len)) ρ s ds s' h]; rfl)))) (sw_or1 ((sd_eqOOT (SY.eqOk_Table cx.K S) (S.meth 37).at_ (S.meth 37).fn (ok_c_Table_eq S base) cx.room (by omega) cx.hG cx.tk rfl (sd_makeD (S.mkr 29) (ok_c_Table_init S base) cx.room (by omega) cx.hG (S.glo 30) S.dfl_c_Table_init cx.tk (sa_cons (sd_lst (sa_cons (sd_str) (sa_nil))) (sa_cons (sd_lst (sa_cons (sd_str) (sa_cons (sd_str) (sa_nil)))) (sa_nil))) (fun ρ s ds s' h => by rw [(mCons_len (mCons_len mNil_len)) ρ s ds s' h]; rfl)) (sd_makeD (S.mkr 29) (ok_c_Table_init S base) cx.room (by omega) cx.hG (S.glo 30) S.dfl_c_Table_init cx.tk (sa_cons (sd_lst (sa_cons (sd_str) (sa_cons (sd_str) (sa_nil)))) (sa_cons (sd_lst (sa_cons (sd_str) (sa_nil))) (sa_nil))) (fun ρ s ds s' h => by rw [(mCons_len (mCons_len mNil_len)) ρ s ds s' h]; rfl))))))) (sb_one (ss_ret (sd_bl))) (sb_nil))
      (sb_one (ss_ret (sd_cmp (op_eqN cx.room.units) os_nil (sd_methO0 (S.cls 1) (S.meth 33) (ok_c_Table_squares S base) cx.room (by omega) cx.hG cx.tk (sd_makeD (S.mkr 29) (ok_c_Table_init S base) cx.room (by omega) cx.hG (S.glo 30) S.dfl_c_Table_init cx.tk (sa_cons (sd_lst (sa_cons (sd_str) (sa_nil))) (sa_cons (sd_lst (sa_cons (sd_str) (sa_nil))) (sa_nil))) (fun ρ s ds s' h => by rw [(mCons_len (mCons_len mNil_len)) ρ s ds s' h]; rfl)) rfl) (sd_lst (sa_nil))))))))
end
end MP

set_option Elab.async false
set_option linter.all false
set_option maxRecDepth 100000
set_option maxHeartbeats 0
namespace MP
open PySem PySem.Spec PyProof.Rows L2
theorem facts0 {P : Program} {w : World} {K : PySem.W.Frag} {h : Heap} {mg : Str → Option Value} {f : Addr} (X : K.In h) (G : h.Ns mainGlobals mg) (hfa : mg ("law" : Str) = some (.ref f)) (c : He.SaysX fa0 fn0 ts0 [] ex0 w h K) :
    ∃ fd : FuncData, (∀ (s : Shared) (v : Value), BindsTo s fd ⟨[v], []⟩ [("_law_script", v)]) ∧ ∀ base : Heap, K.In base → base.Ns mainGlobals mg → FnG P w K mg base 44 f fd ["_law_script"] (@spM ⟨w, []⟩ K 1 law_) := by
  letI : Wd := ⟨w, []⟩
  have S : SYk w K mg := ⟨h, X, G, c, rfl⟩
  have e := hfa.symm.trans (S.glo 0 (x := "law"))
  cases e
  obtain ⟨fd, F⟩ := S.def_ 49 (d := d_law_)
  have b := FunD.bindsA (ps := ["_law_script"]) F fun _ _ _ _ _ _ us hl => match us, hl with | [_], _ => rfl
  exact ⟨fd, fun s v => b s [v] rfl, fun base _ _ => fnG_law_ S base F⟩
end MP
open PySem PySem.W PySem.Calls PyProof.Rows
theorem MP.base0 (lt : ∀ (_ : MP.Wd) (ns : List Int), ns.length ≤ 63 → ∃ st, MP.law_ [.scr ns] [] = some (.ok (.bl true) st)) : PySem.Challenge.rw_heldback_k38_tables_as_sets.Holds := by
  w_on; o_law
  refine HandSHeadRun.head_any (r := OpenLaw.row PySem.Challenge.rw_heldback_k38_tables_as_sets) (q := view (OpenLaw.row PySem.Challenge.rw_heldback_k38_tables_as_sets).prog [34]) (H := MP.hk0) (ob := MP.ob0) (M := 12000) (loose := MP.loose0) (d := HandSHeadRun.topDef (OpenLaw.row PySem.Challenge.rw_heldback_k38_tables_as_sets).prog 34) (kwd := []) MP.ob0_eq
    (by kernel_rfl) (fun s => by kernel_rfl) MP.run0 (by kernel_rfl) (by kernel_rfl) (by kernel_rfl) (by rfl) (by first | assumption | decide +kernel) (by decide +kernel) ⟨rfl, rfl, rfl, rfl, rfl, by decide +kernel⟩ ?hw ?hc
  case hw => w_witness2
  case hc =>
    refine MP.walk_G (l := PySem.Challenge.rw_heldback_k38_tables_as_sets) (n := 63) (k := 44) (x := "_law_script") (fm := MP.law_) rfl (by decide) (by kernel_rfl) ⟨rfl, by decide, by decide⟩ lt ?F
    intro w mg fa h Y G hmg0
    obtain ⟨K, KX, c⟩ := Y
    have hmg : mg ("law" : PySem.Str) = some (.ref fa) := by
      have e : (HandSHeadRun.topDef (OpenLaw.row PySem.Challenge.rw_heldback_k38_tables_as_sets).prog 34).name = ("law" : PySem.Str) := by kernel_rfl
      rw [← e]
      exact hmg0
    obtain ⟨fd, hb, hF⟩ := MP.facts0 (P := (PySem.Challenge.rw_heldback_k38_tables_as_sets).prog) (w := w) KX G hmg c
    exact ⟨K, fd, KX, hb, hF⟩

set_option Elab.async false
set_option linter.all false
set_option maxRecDepth 100000
set_option maxHeartbeats 4000000
/-! PL1: what is wanted of readings (wp), loops by invariants -/
namespace MP
variable [Wd]
open PySem L2
abbrev XP := Xc → Sto → Prop
/-- holds its argument fixed for simp -/
abbrev Tg {β : Type} (q : β) : Type := Unit
def vpR {α : Type} (x : RO α) (Q : α → Sto → Prop) (E : XP) : Prop := match x with
  | some (.ok a s) => Q a s
  | some (.ex e s) => E e s
  | none => False
structure wpR {α : Type} (x : RO α) (Q : α → Sto → Prop) (E : XP) (t : Tg (Q, E) := Unit.unit) : Prop where
  h : vpR x Q E
def vpS (x : Option F) (N : Env → Sto → Prop) (Rt : D → Sto → Prop) (B C : Env → Sto → Prop) (E : Xc → Env → Sto → Prop) : Prop := match x with
  | some (.nx ρ s) => N ρ s
  | some (.rt d s) => Rt d s
  | some (.bk ρ s) => B ρ s
  | some (.ct ρ s) => C ρ s
  | some (.ex e ρ s) => E e ρ s
  | none => False
structure wpS (x : Option F) (N : Env → Sto → Prop) (Rt : D → Sto → Prop) (B C : Env → Sto → Prop) (E : Xc → Env → Sto → Prop) (t : Tg (N, Rt, B, C, E) := Unit.unit) : Prop where
  h : vpS x N Rt B C E
theorem wpR_def {α : Type} {x : RO α} {Q : α → Sto → Prop} {E : XP} : wpR x Q E = vpR x Q E := propext ⟨fun z => z.h, fun z => ⟨z⟩⟩
theorem wpS_def {x : Option F} {N : Env → Sto → Prop} {Rt : D → Sto → Prop} {B C : Env → Sto → Prop} {E : Xc → Env → Sto → Prop} : wpS x N Rt B C E = vpS x N Rt B C E := propext ⟨fun z => z.h, fun z => ⟨z⟩⟩
section
variable {α β : Type} {Q Q' : α → Sto → Prop} {E E' : XP}
@[simp] theorem wpR_ok {a : α} {s : Sto} : wpR (some (.ok a s)) Q E = Q a s := wpR_def
@[simp] theorem wpR_ex {x : Xc} {s : Sto} : wpR (some (.ex x s) : RO α) Q E = E x s := wpR_def
@[simp] theorem wpR_none : wpR (none : RO α) Q E = False := wpR_def
theorem wpR_bnd {x : RO β} {f : β → Sto → RO α} : wpR (bnd x f) Q E = wpR x (fun a s => wpR (f a s) Q E) E := by
  cases x with
  | none => simp only [bnd_none, wpR_none]
  | some r => cases r <;> simp only [bnd_ok, bnd_ex, wpR_ok, wpR_ex]
theorem wpR_noX {x : RO α} : wpR (noX x) Q E = wpR x Q (fun _ _ => False) := by
  cases x with
  | none => simp only [noX_none, wpR_none]
  | some r => cases r <;> simp only [noX_ok, noX_ex, wpR_ok, wpR_ex, wpR_none]
theorem wpR_ext {x : RO α} (h : ∀ a s, Q a s = Q' a s) : wpR x Q E = wpR x Q' E := by
  obtain rfl : Q = Q' := funext fun a => funext fun s => h a s
  rfl
theorem wpR_mono {x : RO α} (h : wpR x Q E) (hQ : ∀ a s, Q a s → Q' a s) (hE : ∀ e s, E e s → E' e s) : wpR x Q' E' := by
  obtain ⟨h⟩ := h
  refine ⟨?_⟩
  cases x with
  | none => exact h
  | some r => cases r with
    | ok a s => exact hQ a s h
    | ex e s => exact hE e s h
/-- no error, whatever is wanted of errors -/
theorem wpR_imp {x : RO α} (h : wpR x Q (fun _ _ => False)) (hQ : ∀ a s, Q a s → Q' a s) : wpR x Q' E := wpR_mono h hQ fun _ _ z => z.elim
theorem wpR_get {x : RO α} (h : wpR x Q (fun _ _ => False)) : ∃ a s, x = some (.ok a s) ∧ Q a s := by
  obtain ⟨h⟩ := h
  cases x with
  | none => exact h.elim
  | some r => cases r with
    | ok a s => exact ⟨a, s, rfl, h⟩
    | ex e s => exact h.elim
end
section
variable {α : Type} {N N' : Env → Sto → Prop} {Rt Rt' : D → Sto → Prop} {B B' C C' : Env → Sto → Prop} {E E' : Xc → Env → Sto → Prop}
@[simp] theorem wpS_nx {ρ : Env} {s : Sto} : wpS (some (.nx ρ s)) N Rt B C E = N ρ s := wpS_def
@[simp] theorem wpS_rt {d : D} {s : Sto} : wpS (some (.rt d s)) N Rt B C E = Rt d s := wpS_def
@[simp] theorem wpS_bk {ρ : Env} {s : Sto} : wpS (some (.bk ρ s)) N Rt B C E = B ρ s := wpS_def
@[simp] theorem wpS_ct {ρ : Env} {s : Sto} : wpS (some (.ct ρ s)) N Rt B C E = C ρ s := wpS_def
@[simp] theorem wpS_ex {x : Xc} {ρ : Env} {s : Sto} : wpS (some (.ex x ρ s)) N Rt B C E = E x ρ s := wpS_def
@[simp] theorem wpS_none : wpS none N Rt B C E = False := wpS_def
theorem wpS_then {x : Option F} {f : MS} : wpS (thenS x f) N Rt B C E = wpS x (fun ρ s => wpS (f ρ s) N Rt B C E) Rt B C E := by
  cases x with
  | none => simp only [thenS_none, wpS_none]
  | some r => cases r <;> simp only [thenS_nx, thenS_rt, thenS_bk, thenS_ct, thenS_ex, wpS_nx, wpS_rt, wpS_bk, wpS_ct, wpS_ex]
theorem wpS_bnd {x : RO α} {ρ : Env} {f : α → Sto → Option F} : wpS (bndS x ρ f) N Rt B C E = wpR x (fun a s => wpS (f a s) N Rt B C E) (fun e s => E e ρ s) := by
  cases x with
  | none => simp only [bndS_none, wpS_none, wpR_none]
  | some r => cases r <;> simp only [bndS_ok, bndS_ex, wpS_ex, wpR_ok, wpR_ex]
/-- a for's loop by an invariant over what is left -/
theorem wp_for {G : Sto → Prop} {g : MG} {body : MS} (Inv : List D → Env → Sto → Prop)
    (hstep : ∀ d ds ρ s, Inv (d :: ds) ρ s → G s ∧ wpR (g d ρ s) (fun ρ1 s1 => wpS (body ρ1 s1) (Inv ds) Rt N (Inv ds) E) (fun e s => E e ρ s)) (hend : ∀ ρ s, Inv [] ρ s → G s ∧ N ρ s) :
    ∀ {ds : List D} {ρ : Env} {s : Sto}, Inv ds ρ s → wpS (forL G g body ds ρ s) N Rt B C E := by
  intro ds
  induction ds with
  | nil =>
    intro ρ s h
    obtain ⟨h1, h2⟩ := hend ρ s h
    unfold forL
    rw [still_yes h1, wpS_nx]
    exact h2
  | cons d ds ih =>
    intro ρ s h
    obtain ⟨h1, h2⟩ := hstep d ds ρ s h
    unfold forL
    rw [still_yes h1, wpS_bnd]
    refine wpR_mono h2 (fun ρ1 s1 h3 => ?_) fun _ _ z => z
    obtain ⟨h3⟩ := h3
    cases hb : body ρ1 s1 with
    | none => rw [hb] at h3; exact h3.elim
    | some f =>
      rw [hb] at h3
      cases f with
      | nx ρ2 s2 => exact ih h3
      | ct ρ2 s2 => exact ih h3
      | bk ρ2 s2 => exact ⟨h3⟩
      | rt d s2 => exact ⟨h3⟩
      | ex e ρ2 s2 => exact ⟨h3⟩
end
/-! ### comprehensions -/
theorem wp_lc {G : Sto → Prop} {g : MG} {c : MT} {elt : ME} {ρ : Env} {Q : List D → Sto → Prop} {E : XP} (Inv : List D → List D → Sto → Prop)
    (hstep : ∀ d ds acc s, Inv (d :: ds) acc s → G s ∧ wpR (g d ρ s) (fun ρ1 s => wpR (c ρ1 s) (fun k s => if k = true then wpR (elt ρ1 s) (fun y s => Inv ds (acc ++ [y]) s) (fun _ _ => False) else Inv ds acc s) (fun _ _ => False)) (fun _ _ => False))
    (hend : ∀ acc s, Inv [] acc s → G s ∧ Q acc s) : ∀ {ds : List D} {s : Sto}, Inv ds [] s → wpR (lcL G g c elt ρ ds s) Q E := by
  have key : ∀ (ds acc : List D) (s : Sto), Inv ds acc s → wpR (lcL G g c elt ρ ds s) (fun ys s => Q (acc ++ ys) s) (fun _ _ => False) := by
    intro ds
    induction ds with
    | nil =>
      intro acc s h
      obtain ⟨h1, h2⟩ := hend acc s h
      unfold lcL
      rw [still_yes h1, wpR_ok, List.append_nil]
      exact h2
    | cons d ds ih =>
      intro acc s h
      obtain ⟨h1, h2⟩ := hstep d ds acc s h
      unfold lcL
      rw [still_yes h1, wpR_bnd, wpR_noX]
      refine wpR_mono h2 (fun ρ1 s1 h3 => ?_) fun _ _ z => z
      rw [wpR_bnd, wpR_noX]
      refine wpR_mono h3 (fun k s2 h4 => ?_) fun _ _ z => z
      cases k with
      | false => exact ih acc s2 h4
      | true =>
        rw [if_pos rfl] at h4 ⊢
        rw [wpR_bnd, wpR_noX]
        refine wpR_mono h4 (fun y s3 h5 => ?_) fun _ _ z => z
        rw [wpR_bnd]
        refine wpR_mono (ih (acc ++ [y]) s3 h5) (fun ys s4 h6 => ?_) fun _ _ z => z
        rw [wpR_ok]
        simpa using h6
  intro ds s h
  exact wpR_imp (key ds [] s h) fun ys s q => by simpa using q
/-- a comprehension that changes nothing -/
theorem lcL_pure {g : MG} {c : MT} {elt : ME} {ρ : Env} {s : Sto} (f : D → Option D) : ∀ {ds : List D},
    (∀ d ∈ ds, ∃ ρ1, g d ρ s = some (.ok ρ1 s) ∧ match f d with
      | some y => c ρ1 s = some (.ok true s) ∧ elt ρ1 s = some (.ok y s)
      | none => c ρ1 s = some (.ok false s)) → lcL any_ g c elt ρ ds s = some (.ok (ds.filterMap f) s)
  | [], _ => by simp [lcL]
  | d :: ds, h => by
    obtain ⟨ρ1, h1, h2⟩ := h d (List.mem_cons_self)
    have ih := lcL_pure (g := g) (c := c) (elt := elt) (ρ := ρ) (s := s) f (ds := ds) fun d hd => h d (List.mem_cons_of_mem _ hd)
    unfold lcL
    rw [still_any, h1, noX_ok, bnd_ok]
    cases hf : f d with
    | none =>
      rw [hf] at h2
      dsimp only at h2
      rw [h2, noX_ok, bnd_ok, if_neg (by simp), ih, List.filterMap_cons, hf]
    | some y =>
      rw [hf] at h2
      obtain ⟨h2, h3⟩ := h2
      rw [h2, noX_ok, bnd_ok, if_pos rfl, h3, noX_ok, bnd_ok, ih, bnd_ok, List.filterMap_cons, hf]
/-! ### defs -/
def pad : Nat → List D → Env
  | 0, _ => []
  | n + 1, [] => none :: pad n []
  | n + 1, d :: ds => some d :: pad n ds
theorem pad_nil : ∀ n, pad n [] = List.replicate n none
  | 0 => rfl
  | n + 1 => by rw [pad, pad_nil n, List.replicate_succ]
theorem pad_eq : ∀ (n : Nat) (ds : List D), ds.length ≤ n → ds.map some ++ List.replicate (n - ds.length) none = pad n ds
  | n, [], _ => by simp [pad_nil]
  | 0, _ :: _, h => by simp at h
  | n + 1, d :: ds, h => by
    have h2 : ds.length ≤ n := by simpa using h
    simp only [pad, List.map_cons, List.length_cons, List.cons_append, List.cons.injEq, true_and]
    rw [← pad_eq n ds h2, show n + 1 - (ds.length + 1) = n - ds.length by omega]
theorem wp_fn {n : Nat} {body : MS} {ds : List D} {s : Sto} {Q : D → Sto → Prop} {E : XP} (hl : ds.length ≤ n) (h : wpS (body (pad n ds) s) (fun _ s => Q .non s) Q (fun _ _ => False) (fun _ _ => False) (fun x _ s => E x s)) : wpR (fnM n body ds s) Q E := by
  unfold fnM
  rw [if_pos hl, pad_eq n ds hl]
  obtain ⟨h⟩ := h
  refine ⟨?_⟩
  cases hb : body (pad n ds) s with
  | none => rw [hb] at h; exact h
  | some f => rw [hb] at h; cases f <;> exact h
end MP


set_option Elab.async false
set_option linter.all false
set_option maxRecDepth 100000
set_option maxHeartbeats 4000000
/-! PL2: operations on plain values -/
namespace MP
variable [Wd]
open PySem L2
theorem beq_dec {α : Type} [BEq α] [LawfulBEq α] [DecidableEq α] (x y : α) : (x == y) = decide (x = y) := by rw [Bool.eq_iff_iff]; simp
section
variable {s : Sto} {i j : Int} {a b : Str}
theorem fAdd_int : fAdd s (.int i) (.int j) = some (.int (i + j)) := id rfl
theorem fSub_int : fSub s (.int i) (.int j) = some (.int (i - j)) := id rfl
theorem fMul_int (h : cMul i j = true) : fMul s (.int i) (.int j) = some (.int (i * j)) := if_pos h
theorem cMul_l (h1 : -(2 ^ 64) < i) (h2 : i < 2 ^ 64) : cMul i j = true := by simp [cMul]; omega
theorem cMul_r (h1 : -(2 ^ 64) < j) (h2 : j < 2 ^ 64) : cMul i j = true := by simp [cMul]; omega
theorem fMod_int (h : 0 < j) : fMod s (.int i) (.int j) = some (.int (i % j)) := if_pos (by simpa using h)
theorem fDiv_int (h : 0 < j) (h2 : j < 1073741824) : fDiv s (.int i) (.int j) = some (.int (i / j)) := if_pos (by simp [cDiv, h, h2])
theorem fPow_int (h : 0 ≤ j) (h1 : j ≤ 1000000) (h2 : i.natAbs < 2 ^ 64) : fPow s (.int i) (.int j) = some (.int (i ^ j.toNat)) := if_pos (by simp [cPow, h, h1, h2])
theorem fLt_int : fLt s (.int i) (.int j) = some (.bl (decide (i < j))) := id rfl
theorem fLe_int : fLe s (.int i) (.int j) = some (.bl (decide (i ≤ j))) := id rfl
theorem fGt_int : fGt s (.int i) (.int j) = some (.bl (decide (j < i))) := id rfl
theorem fGe_int : fGe s (.int i) (.int j) = some (.bl (decide (j ≤ i))) := id rfl
theorem fNeg_int : fNeg s (.int i) = some (.int (-i)) := id rfl
theorem fEq_int : fEq s (.int i) (.int j) = some (.bl (decide (i = j))) := by
  unfold fEq eqD
  simp only [pyS, D.py]
  rw [if_pos (by simp [SeqAt.shaped, PyData.canLay0, PyData.depth])]
  simp [PyData.eqv, beq_dec]
theorem fNe_int : fNe s (.int i) (.int j) = some (.bl (!decide (i = j))) := by
  unfold fNe eqD
  simp only [pyS, D.py]
  rw [if_pos (by simp [SeqAt.shaped, PyData.canLay0, PyData.depth])]
  simp [PyData.eqv, beq_dec]
theorem fEq_str (ha : PyData.strOk a = true) (hb : PyData.strOk b = true) : fEq s (.str a) (.str b) = some (.bl (decide (a = b))) := by
  unfold fEq eqD
  simp only [pyS, D.py]
  rw [if_pos (by simp [SeqAt.shaped, PyData.canLay0, PyData.depth, ha, hb])]
  simp [PyData.eqv, beq_dec]
theorem fNe_str (ha : PyData.strOk a = true) (hb : PyData.strOk b = true) : fNe s (.str a) (.str b) = some (.bl (!decide (a = b))) := by
  unfold fNe eqD
  simp only [pyS, D.py]
  rw [if_pos (by simp [SeqAt.shaped, PyData.canLay0, PyData.depth, ha, hb])]
  simp [PyData.eqv, beq_dec]
theorem pyL_ints : ∀ l : List Int, pyL (l.map D.int) = some (l.map PyData.int)
  | [] => rfl
  | i :: l => by simp only [List.map_cons, pyL, D.py, pyL_ints l]
theorem lay_ints : ∀ l : List Int, PyData.canLayAll0 (l.map PyData.int) = true ∧ PyData.depthAll (l.map PyData.int) = 0
  | [] => ⟨rfl, rfl⟩
  | i :: l => by simp [PyData.canLayAll0, PyData.canLay0, PyData.depthAll, PyData.depth, lay_ints l]
theorem fNe_ints_nil {n : Nat} {l : List Int} (h : s[n]? = some (.lst (l.map .int))) : fNe s (.ref n) (.lst []) = some (.bl (!l.isEmpty)) := by
  unfold fNe eqD
  simp only [pyS, D.py, h, pyL_ints, pyL, Option.map_some]
  rw [if_pos (by simp [SeqAt.shaped, PyData.canLay0, PyData.depth, lay_ints, PyData.canLayAll0, PyData.depthAll])]
  cases l <;> simp [PyData.eqv, PyData.eqvAll]
theorem atI_nat {α : Type} {l : List α} {n : Nat} {x : α} (h : l[n]? = some x) : atI l (n : Int) = some x := by
  have hl := (List.getElem?_eq_some_iff.mp h).1
  unfold atI ixN
  rw [if_pos (Int.natCast_nonneg n), if_pos (by omega)]
  simpa using h
end
/-! ### the spring of draws -/
structure Sp0 where
  l : List Int
  a : Int
  b : Int
  c : Int
def stm (q : Sp0) (t : Sto) : Sto := .lst (q.l.map .int) :: .lst [.ref 0, .int q.a, .int q.b, .int q.c] :: t
structure Sp0.Ok (q : Sp0) : Prop where
  a : 0 ≤ q.a
  b : 0 ≤ q.b
  c : 0 ≤ q.c
  c2 : q.c < 2147483647
end MP


set_option Elab.async false
set_option linter.all false
set_option maxRecDepth 100000
set_option maxHeartbeats 4000000
/-! PL3: wp of each combinator, as equations at the head -/
namespace MP
variable [Wd]
open PySem L2
def vpO {α : Type} (o : Option α) (Q : α → Prop) : Prop := match o with
  | some a => Q a
  | none => False
structure wpO {α : Type} (o : Option α) (Q : α → Prop) (t : Tg Q := Unit.unit) : Prop where
  h : vpO o Q
structure wpB (k : Bool) (a b : Prop) (t : Tg (a, b) := Unit.unit) : Prop where
  h : if k = true then a else b
structure wpI (c : Prop) (a : Prop) (t : Tg a := Unit.unit) : Prop where
  l : c
  r : a
theorem wpO_def {α : Type} {o : Option α} {Q : α → Prop} : wpO o Q = vpO o Q := propext ⟨fun z => z.h, fun z => ⟨z⟩⟩
theorem wpB_def {k : Bool} {a b : Prop} : wpB k a b = if k = true then a else b := propext ⟨fun z => z.h, fun z => ⟨z⟩⟩
theorem wpI_def {c a : Prop} : wpI c a = (c ∧ a) := propext ⟨fun z => ⟨z.l, z.r⟩, fun z => ⟨z.1, z.2⟩⟩
local macro_rules | `(tactic| walk_at "wpy") => `(tactic| first | rfl | (simp only [wpR_def, wpS_def, wpO_def, wpB_def, wpI_def]; rfl) | (simp only [wpR_def, wpS_def, wpO_def, wpB_def, wpI_def]; done))
theorem wpO_ext {α : Type} {x : Option α} {Q Q' : α → Prop} (h : ∀ a, Q a = Q' a) : wpO x Q = wpO x Q' := by
  obtain rfl : Q = Q' := funext h
  walk_at "wpy"
theorem wpI_ext {c a b : Prop} (h : a = b) : wpI c a = wpI c b := by rw [h]
theorem wpO_some {α : Type} {a : α} {Q : α → Prop} : wpO (some a) Q = Q a := wpO_def
theorem wpO_none {α : Type} {Q : α → Prop} : wpO (none : Option α) Q = False := wpO_def
theorem wpB_true {a b : Prop} : wpB true a b = a := by rw [wpB_def]; rfl
theorem wpB_false {a b : Prop} : wpB false a b = b := by rw [wpB_def]; rfl
theorem wpB_not {k : Bool} {a b : Prop} : wpB (!k) a b = wpB k b a := by rw [wpB_def, wpB_def]; cases k <;> walk_at "wpy"
theorem wpI_true {a : Prop} : wpI True a = a := by rw [wpI_def]; simp
theorem wpB_intro {k : Bool} {a b : Prop} (h1 : k = true → a) (h2 : k = false → b) : wpB k a b := by
  cases k with
  | true => rw [wpB_true]; exact h1 rfl
  | false => rw [wpB_false]; exact h2 rfl
theorem wpB_dec {p : Prop} [Decidable p] {a b : Prop} (h1 : p → a) (h2 : ¬p → b) : wpB (decide p) a b := wpB_intro (fun h => h1 (of_decide_eq_true h)) fun h => h2 (of_decide_eq_false h)
theorem wpO_get {α : Type} {o : Option α} {a : α} {Q : α → Prop} (h : o = some a) (q : Q a) : wpO o Q := by rw [h, wpO_some]; exact q
theorem wpI_intro {c a : Prop} (h : c) (q : a) : wpI c a := ⟨h, q⟩
section
variable {E : XP}
theorem wpR_cond {α : Type} {p : Prop} [Decidable p] {x : RO α} {Q : α → Sto → Prop} : wpR (if p then x else none) Q E = wpI p (wpR x Q E) := by
  by_cases h : p
  · rw [if_pos h, wpI_def]; simp [h]
  · rw [if_neg h, wpI_def]; simp [h]
theorem wpR_ite {α : Type} {k : Bool} {x y : RO α} {Q : α → Sto → Prop} : wpR (if k = true then x else y) Q E = wpB k (wpR x Q E) (wpR y Q E) := by cases k <;> walk_at "wpy"
end
section
variable {N : Env → Sto → Prop} {Rt : D → Sto → Prop} {B C : Env → Sto → Prop} {E : Xc → Env → Sto → Prop}
theorem wpS_ite {k : Bool} {x y : Option F} : wpS (if k = true then x else y) N Rt B C E = wpB k (wpS x N Rt B C E) (wpS y N Rt B C E) := by cases k <;> walk_at "wpy"
end
section
variable {α : Type} {Q : α → Sto → Prop} {E : XP} {s : Sto}
theorem wpR_ofO {o : Option α} : wpR (ofO o s) Q E = wpO o (fun a => Q a s) := by cases o <;> walk_at "wpy"
end
local macro_rules | `(tactic| walk_at "wpx") => `(tactic| repeat (first | rfl | simp only [wpR_bnd, wpR_ofO, wpR_ok, wpR_cond, wpR_ite, wpS_bnd, wpS_nx, wpS_rt, wpS_ite] | refine wpR_ext fun _ _ => ?_ | refine wpI_ext ?_ | refine wpO_ext fun _ => ?_ | (simp only [wpR_def, wpS_def, wpO_def, wpB_def, wpI_def]; rfl)))
def asB : D → Option Bool
  | .bl b => some b
  | _ => none
def asI : D → Option Int
  | .int i => some i
  | _ => none
def asT : D → Option (List D)
  | .tup l => some l
  | _ => none
def asS : D → Option Str
  | .str z => some z
  | _ => none
def two : List D → Option (D × D)
  | [x, y] => some (x, y)
  | _ => none
def three : List D → Option (D × D × D)
  | [x, y, z] => some (x, y, z)
  | _ => none
theorem asB_bl {b : Bool} : asB (.bl b) = some b := id rfl
theorem asI_int {i : Int} : asI (.int i) = some i := id rfl
theorem asT_tup {l : List D} : asT (.tup l) = some l := id rfl
theorem asS_str {z : Str} : asS (.str z) = some z := id rfl
theorem two_two {x y : D} : two [x, y] = some (x, y) := id rfl
theorem three_three {x y z : D} : three [x, y, z] = some (x, y, z) := id rfl
section
variable {ρ : Env} {s : Sto} {i j l : Nat} {a b c : ME} {r : MA} {m : MT} {m2 : MT} {f : Sto → D → D → Option D} {g : Sto → D → Option D} {Q : D → Sto → Prop} {QA : List D → Sto → Prop} {QT : Bool → Sto → Prop} {E : XP}
theorem wp_mVar : wpR (mVar i ρ s) Q E = wpO ρ[i]? (fun o => wpO o fun d => Q d s) := by
  unfold mVar
  cases h : ρ[i]? with
  | none => walk_at "wpy"
  | some o => cases o <;> walk_at "wpy"
theorem wp_mC {d : D} : wpR (mC d ρ s) Q E = Q d s := wpR_ok
theorem wp_mOp : wpR (mOp f a b ρ s) Q E = wpR (a ρ s) (fun x s => wpR (b ρ s) (fun y s => wpO (f s x y) fun d => Q d s) E) E := by
  unfold mOp; walk_at "wpx"
theorem wp_mUn : wpR (mUn g a ρ s) Q E = wpR (a ρ s) (fun x s => wpO (g s x) fun d => Q d s) E := by
  unfold mUn; walk_at "wpx"
theorem wp_mNil : wpR (mNil ρ s) QA E = QA [] s := wpR_ok
theorem wp_mCons : wpR (mCons a r ρ s) QA E = wpR (a ρ s) (fun x s => wpR (r ρ s) (fun xs s => QA (x :: xs) s) E) E := by
  unfold mCons; walk_at "wpx"
theorem wp_mStar : wpR (mStar a r ρ s) QA E = wpR (a ρ s) (fun x s => wpO (items? s x) fun ys => wpR (r ρ s) (fun xs s => QA (ys ++ xs) s) E) E := by
  unfold mStar; walk_at "wpx"
theorem wp_mTup : wpR (mTup r ρ s) Q E = wpR (r ρ s) (fun xs s => wpI (xs.length ≤ 16777216) (Q (.tup xs) s)) E := by
  unfold mTup; walk_at "wpx"
theorem wp_mLst : wpR (mLst r ρ s) Q E = wpR (r ρ s) (fun xs s => wpI (xs.length ≤ 16777216) (Q (.lst xs) s)) E := by
  unfold mLst; walk_at "wpx"
theorem wp_mLstB : wpR (mLstB r ρ s) Q E = wpR (r ρ s) (fun xs s => wpI (xs.length ≤ 16777216) (Q (.ref s.length) (s ++ [.lst xs]))) E := by
  unfold mLstB; walk_at "wpx"
theorem wp_mIfE : wpR (mIfE m a b ρ s) Q E = wpR (m ρ s) (fun k s => wpB k (wpR (a ρ s) Q E) (wpR (b ρ s) Q E)) E := by
  unfold mIfE; walk_at "wpx"
theorem wp_mTst : wpR (mTst a ρ s) QT E = wpR (a ρ s) (fun x s => wpO (asB x) fun k => QT k s) E := by
  unfold mTst
  rw [wpR_bnd]
  refine wpR_ext fun x s => ?_
  cases x <;> walk_at "wpy"
theorem wp_mNot : wpR (mNot m ρ s) QT E = wpR (m ρ s) (fun k s => QT (!k) s) E := by
  unfold mNot; walk_at "wpx"
theorem wp_mAnd : wpR (mAnd m m2 ρ s) QT E = wpR (m ρ s) (fun k s => wpB k (wpR (m2 ρ s) QT E) (QT false s)) E := by
  unfold mAnd; walk_at "wpx"
theorem wp_mOr : wpR (mOr m m2 ρ s) QT E = wpR (m ρ s) (fun k s => wpB k (QT true s) (wpR (m2 ρ s) QT E)) E := by
  unfold mOr; walk_at "wpx"
theorem wp_mAndV : wpR (mAndV a b ρ s) Q E = wpR (a ρ s) (fun x s => wpO (asB x) fun k => wpB k (wpR (b ρ s) Q E) (Q (.bl false) s)) E := by
  unfold mAndV
  rw [wpR_bnd]
  refine wpR_ext fun x s => ?_
  cases x with
  | bl k => cases k <;> walk_at "wpy"
  | _ => walk_at "wpy"
theorem wp_mOrV : wpR (mOrV a b ρ s) Q E = wpR (a ρ s) (fun x s => wpO (asB x) fun k => wpB k (Q (.bl true) s) (wpR (b ρ s) Q E)) E := by
  unfold mOrV
  rw [wpR_bnd]
  refine wpR_ext fun x s => ?_
  cases x with
  | bl k => cases k <;> walk_at "wpy"
  | _ => walk_at "wpy"
theorem wp_mNotV : wpR (mNotV a ρ s) Q E = wpR (a ρ s) (fun x s => wpO (asB x) fun k => Q (.bl !k) s) E := by
  unfold mNotV
  rw [wpR_bnd]
  refine wpR_ext fun x s => ?_
  cases x <;> walk_at "wpy"
theorem wp_mChain {f f' : Sto → D → D → Option Bool} : wpR (mChain f f' a b c ρ s) Q E = wpR (a ρ s) (fun x s => wpR (b ρ s) (fun y s => wpO (f s x y) fun k => wpB k (wpR (c ρ s) (fun z s => wpO (f' s y z) fun k => Q (.bl k) s) E) (Q (.bl false) s)) E) E := by
  unfold mChain
  rw [wpR_bnd]
  refine wpR_ext fun x s => ?_
  rw [wpR_bnd]
  refine wpR_ext fun y s => ?_
  cases h : f s x y with
  | none => walk_at "wpy"
  | some k => cases k with
    | false => walk_at "wpy"
    | true =>
      dsimp only
      rw [wpR_bnd]
      rw [wpO_some, wpB_true]
      refine wpR_ext fun z s => ?_
      cases h : f' s y z <;> walk_at "wpy"
theorem cI_int {g : Int → Int → Bool} {i j : Int} : cI g s (.int i) (.int j) = some (g i j) := id rfl
theorem wp_mCall {f : FM} : wpR (mCall f r ρ s) Q E = wpR (r ρ s) (fun ds s => wpR (f ds s) Q E) E := by
  unfold mCall; walk_at "wpx"
theorem wp_mCallB {f : Sto → List D → Option (D × Sto)} : wpR (mCallB f r ρ s) Q E = wpR (r ρ s) (fun ds s => wpO (f s ds) fun p => Q p.1 p.2) E := by
  unfold mCallB
  rw [wpR_bnd]
  refine wpR_ext fun ds s => ?_
  cases f s ds <;> walk_at "wpy"
theorem wpO_pu {f : Sto → List D → Option D} {ds : List D} {Q : D × Sto → Prop} : wpO (pu f s ds) Q = wpO (f s ds) (fun d => Q (d, s)) := by
  unfold pu
  cases f s ds <;> walk_at "wpy"
theorem wp_mBm {ty : Sto → D → Bool} {f : Sto → D → List D → Option (D × Sto)} : wpR (mBm ty f a r ρ s) Q E = wpR (a ρ s) (fun x s => wpI (ty s x = true) (wpR (r ρ s) (fun ds s => wpO (f s x ds) fun p => Q p.1 p.2) E)) E := by
  unfold mBm
  rw [wpR_bnd]
  refine wpR_ext fun x s => ?_
  rw [wpR_cond]
  refine wpI_ext ?_
  rw [wpR_bnd]
  refine wpR_ext fun ds s => ?_
  cases f s x ds <;> walk_at "wpy"
theorem wp_mBm0 {ty : Sto → D → Bool} {f : Sto → D → List D → Option (D × Sto)} : wpR (mBm0 ty f a ρ s) Q E = wpR (a ρ s) (fun x s => wpI (ty s x = true) (wpO (f s x []) fun p => Q p.1 p.2)) E := by
  unfold mBm0
  rw [wpR_bnd]
  refine wpR_ext fun x s => ?_
  rw [wpR_cond]
  refine wpI_ext ?_
  cases f s x [] <;> walk_at "wpy"
theorem wp_moN {QO : Option Int → Sto → Prop} : wpR (moN ρ s) QO E = QO none s := wpR_ok
theorem wp_moS {QO : Option Int → Sto → Prop} : wpR (moS a ρ s) QO E = wpR (a ρ s) (fun x s => wpO (asI x) fun i => QO (some i) s) E := by
  unfold moS
  rw [wpR_bnd]
  refine wpR_ext fun x s => ?_
  cases x <;> walk_at "wpy"
theorem wp_mSl {lo hi : MO} : wpR (mSl a lo hi ρ s) Q E = wpR (a ρ s) (fun x s => wpR (lo ρ s) (fun l s => wpR (hi ρ s) (fun h s => wpO (fSl s x l h) fun d => Q d s) E) E) E := by
  unfold mSl; walk_at "wpx"
theorem wp_mIsi {f : Kd → Option Bool} : wpR (mIsi f a ρ s) Q E = wpR (a ρ s) (fun x s => wpO ((kdD s x).bind f) fun k => Q (.bl k) s) E := by
  unfold mIsi
  rw [wpR_bnd]
  refine wpR_ext fun x s => ?_
  cases (kdD s x).bind f <;> walk_at "wpy"
theorem wp_mTab {T : List (Str × Str)} : wpR (mTab T a ρ s) Q E = wpR (a ρ s) (fun x s => wpO ((asS x).bind fun z => T.lookup z) fun v => Q (.str v) s) E := by
  unfold mTab
  rw [wpR_bnd]
  refine wpR_ext fun x s => ?_
  cases x with
  | str z =>
    dsimp only [asS, Option.bind_some]
    cases T.lookup z <;> walk_at "wpy"
  | _ => walk_at "wpy"
theorem wp_mTabIn {T : List (Str × Str)} : wpR (mTabIn T a ρ s) Q E = wpR (a ρ s) (fun x s => wpO (asS x) fun z => Q (.bl (T.lookup z).isSome) s) E := by
  unfold mTabIn
  rw [wpR_bnd]
  refine wpR_ext fun x s => ?_
  cases x <;> walk_at "wpy"
theorem wp_mTabNotIn {T : List (Str × Str)} : wpR (mTabNotIn T a ρ s) Q E = wpR (a ρ s) (fun x s => wpO (asS x) fun z => Q (.bl !(T.lookup z).isSome) s) E := by
  unfold mTabNotIn
  rw [wpR_bnd]
  refine wpR_ext fun x s => ?_
  cases x <;> walk_at "wpy"
def dg? (s : Sto) (x y : D) : Option D := (dct? s x).bind fun l => (key? y).bind fun k => getK l k
theorem wp_mDGet : wpR (mDGet a b ρ s) Q E = wpR (a ρ s) (fun x s => wpR (b ρ s) (fun y s => wpO (dg? s x y) fun d => Q d s) E) E := by
  unfold mDGet dg?
  rw [wpR_bnd]
  refine wpR_ext fun x s => ?_
  rw [wpR_bnd]
  refine wpR_ext fun y s => ?_
  cases dct? s x with
  | none => walk_at "wpy"
  | some l => cases key? y with
    | none => walk_at "wpy"
    | some k =>
      dsimp only [Option.bind_some]
      rw [wpR_ofO]
def dg2? (s : Sto) (x y z : D) : Option D := (dct? s x).bind fun l => (key? y).map fun k => (getK l k).getD z
theorem wp_mDGet2 : wpR (mDGet2 a b c ρ s) Q E = wpR (a ρ s) (fun x s => wpI ((dct? s x).isSome = true) (wpR (b ρ s) (fun y s => wpR (c ρ s) (fun z s => wpO (dg2? s x y z) fun d => Q d s) E) E)) E := by
  unfold mDGet2 dg2?
  rw [wpR_bnd]
  refine wpR_ext fun x s => ?_
  rw [wpR_cond]
  refine wpI_ext ?_
  rw [wpR_bnd]
  refine wpR_ext fun y s => ?_
  rw [wpR_bnd]
  refine wpR_ext fun z s => ?_
  cases dct? s x with
  | none => walk_at "wpy"
  | some l => cases key? y <;> walk_at "wpy"
theorem wp_mDNew : wpR (mDNew ρ s) Q E = Q (.ref s.length) (s ++ [.dct []]) := wpR_ok
theorem wp_mSortSet : wpR (mSortSet a ρ s) Q E = wpR (a ρ s) (fun x s => wpO (txtsOf s x) fun ss => Q (.lst ((srt (ddS ss)).map .str)) s) E := by
  unfold mSortSet
  rw [wpR_bnd]
  refine wpR_ext fun x s => ?_
  cases txtsOf s x <;> walk_at "wpy"
theorem wp_mSortSetB : wpR (mSortSetB a ρ s) Q E = wpR (a ρ s) (fun x s => wpO (txtsOf s x) fun ss => Q (.ref s.length) (s ++ [.lst ((srt (ddS ss)).map .str)])) E := by
  unfold mSortSetB
  rw [wpR_bnd]
  refine wpR_ext fun x s => ?_
  cases txtsOf s x <;> walk_at "wpy"
theorem wp_mLenSet : wpR (mLenSet a ρ s) Q E = wpR (a ρ s) (fun x s => wpO (txtsOf s x) fun ss => Q (.int (ddS ss).length) s) E := by
  unfold mLenSet
  rw [wpR_bnd]
  refine wpR_ext fun x s => ?_
  cases txtsOf s x <;> walk_at "wpy"
theorem wp_mFrz : wpR (mFrz a ρ s) Q E = wpR (a ρ s) (fun x s => wpO (box? s x) fun nl => Q (.lst nl.2) (s.set nl.1 .gone)) E := by
  unfold mFrz
  rw [wpR_bnd]
  refine wpR_ext fun x s => ?_
  cases x with
  | ref n =>
    dsimp only [box?]
    cases h : s[n]? with
    | none => walk_at "wpy"
    | some o => cases o <;> walk_at "wpy"
  | _ => walk_at "wpy"
theorem wp_mFld {C f : Str} : wpR (mFld C f a ρ s) Q E = wpR (a ρ s) (fun x s => wpO ((ins? s C x).bind fun nf => nf.2.lookup f) fun d => Q d s) E := by
  unfold mFld
  rw [wpR_bnd]
  refine wpR_ext fun x s => ?_
  cases ins? s C x with
  | none => walk_at "wpy"
  | some nf =>
    dsimp only [Option.bind_some]
    rw [wpR_ofO]
theorem wp_mMeth {C m : Str} {fm : FM} : wpR (mMeth C m fm a r ρ s) Q E = wpR (a ρ s) (fun x s => wpO (ins? s C x) fun nf => wpI ((nf.2.lookup m).isNone = true) (wpR (r ρ s) (fun ds s => wpR (fm (x :: ds) s) Q E) E)) E := by
  unfold mMeth
  rw [wpR_bnd]
  refine wpR_ext fun x s => ?_
  cases ins? s C x with
  | none => walk_at "wpy"
  | some nf =>
    dsimp only
    rw [wpR_cond, wpR_bnd]
    walk_at "wpy"
def isNon : D → Prop
  | .non => True
  | _ => False
theorem isNon_non : isNon .non = True := id rfl
theorem wp_mMake {C : Str} {fm : FM} : wpR (mMake C fm r ρ s) Q E = wpR (r ρ s) (fun ds s => wpR (fm (.ref s.length :: ds) (s ++ [.ins C []])) (fun d s' => wpI (isNon d) (Q (.ref s.length) s')) E) E := by
  unfold mMake
  rw [wpR_bnd]
  refine wpR_ext fun ds s => ?_
  cases fm (.ref s.length :: ds) (s ++ [.ins C []]) with
  | none => walk_at "wpy"
  | some x => cases x with
    | ex e s' => walk_at "wpy"
    | ok d s' => cases d with
      | non => rw [wpR_ok]; simp only [isNon_non, wpI_true, wpR_ok]
      | _ => simp [wpI_def, isNon]
theorem wp_mLenO {C : Str} {fm : FM} : wpR (mLenO C fm a ρ s) Q E = wpR (a ρ s) (fun x s => wpI ((ins? s C x).isSome = true) (wpR (fm [x] s) (fun d s => wpO (asI d) fun i => wpI (0 ≤ i ∧ i < 2 ^ 63) (Q (.int i) s)) E)) E := by
  unfold mLenO
  rw [wpR_bnd]
  refine wpR_ext fun x s => ?_
  cases ins? s C x with
  | none => simp [wpI_def]
  | some nf =>
    simp only [Option.isSome_some, wpI_true]
    rw [wpR_bnd]
    refine wpR_ext fun d s => ?_
    cases d with
    | int i => show wpR (if _ then _ else none) _ _ = _; rw [wpR_cond, wpR_ok, asI_int, wpO_some]
    | _ => walk_at "wpy"
theorem wp_mEqO {C : Str} {ok : Kd → Bool} {fm : FM} : wpR (mEqO C ok fm a b ρ s) Q E = wpR (a ρ s) (fun x s => wpR (b ρ s) (fun y s => wpI ((ins? s C x).isSome = true) (wpO (kdD s y) fun k => wpI (ok k = true) (wpR (fm [x, y] s) (fun d s => wpO (asB d) fun k => Q (.bl k) s) E))) E) E := by
  unfold mEqO
  rw [wpR_bnd]
  refine wpR_ext fun x s => ?_
  rw [wpR_bnd]
  refine wpR_ext fun y s => ?_
  cases ins? s C x with
  | none => simp [wpI_def]
  | some nf =>
    simp only [Option.isSome_some, wpI_true]
    cases kdD s y with
    | none => walk_at "wpy"
    | some k =>
      dsimp only
      rw [wpR_cond, wpO_some]
      refine wpI_ext ?_
      rw [wpR_bnd]
      refine wpR_ext fun d s => ?_
      cases d <;> walk_at "wpy"
theorem wp_mNeO {C : Str} {ok : Kd → Bool} {fm : FM} : wpR (mNeO C ok fm a b ρ s) Q E = wpR (a ρ s) (fun x s => wpR (b ρ s) (fun y s => wpI ((ins? s C x).isSome = true) (wpO (kdD s y) fun k => wpI (ok k = true) (wpR (fm [x, y] s) (fun d s => wpO (asB d) fun k => Q (.bl !k) s) E))) E) E := by
  unfold mNeO
  rw [wpR_bnd]
  refine wpR_ext fun x s => ?_
  rw [wpR_bnd]
  refine wpR_ext fun y s => ?_
  cases ins? s C x with
  | none => simp [wpI_def]
  | some nf =>
    simp only [Option.isSome_some, wpI_true]
    cases kdD s y with
    | none => walk_at "wpy"
    | some k =>
      dsimp only
      rw [wpR_cond, wpO_some]
      refine wpI_ext ?_
      rw [wpR_bnd]
      refine wpR_ext fun d s => ?_
      cases d <;> walk_at "wpy"
variable {mi : MI} {g : MG} {vs : List Nat} {QI : List D × (Sto → Prop) → Sto → Prop}
theorem wp_mLc : wpR (mLc mi vs g m a ρ s) Q E = wpR (mi ρ s) (fun src s => wpI (src.1.length ≤ 16777216) (wpR (lcL src.2 g m a (wipeE ρ vs) src.1 s) (fun ys s => Q (.lst ys) s) E)) E := by
  unfold mLc lcM; walk_at "wpx"
theorem wp_mLcB : wpR (mLcB mi vs g m a ρ s) Q E = wpR (mi ρ s) (fun src s => wpI (src.1.length ≤ 16777216) (wpR (lcL src.2 g m a (wipeE ρ vs) src.1 s) (fun ys s => Q (.ref s.length) (s ++ [.lst ys])) E)) E := by
  unfold mLcB lcM; walk_at "wpx"
theorem wp_miSeq : wpR (miSeq a ρ s) QI E = wpR (a ρ s) (fun x s => wpO (seqOf s x) fun p => QI p s) E := by
  unfold miSeq; walk_at "wpx"
theorem wp_miRng : wpR (miRng r ρ s) QI E = wpR (r ρ s) (fun x s => wpO (rng? x) fun p => QI p s) E := by
  unfold miRng; walk_at "wpx"
theorem wp_miZip : wpR (miZip r ρ s) QI E = wpR (r ρ s) (fun x s => wpO (zip? s x) fun p => QI p s) E := by
  unfold miZip; walk_at "wpx"
theorem wp_miEnum : wpR (miEnum r ρ s) QI E = wpR (r ρ s) (fun x s => wpO (enum? s x) fun p => QI p s) E := by
  unfold miEnum; walk_at "wpx"
end
section
variable {d : D} {ds : List D} {ρ : Env} {s : Sto} {i : Nat} {g : MG} {gs : MGs} {QG : Env → Sto → Prop} {E : XP} {o k : ME}
theorem wp_gmName : wpR (gmName i d ρ s) QG E = QG (ρ.set i (some d)) s := wpR_ok
theorem wp_gmNil : wpR (gmNil [] ρ s) QG E = QG ρ s := wpR_ok
theorem wp_gmCons : wpR (gmCons g gs (d :: ds) ρ s) QG E = wpR (g d ρ s) (fun ρ s => wpR (gs ds ρ s) QG E) E := by
  unfold gmCons; walk_at "wpx"
theorem wp_gmTup : wpR (gmTup gs d ρ s) QG E = wpO (asT d) (fun l => wpR (gs l ρ s) QG E) := by
  unfold gmTup
  cases d <;> walk_at "wpy"
def sub? (s : Sto) (x : D) (j : Int) (d : D) : Option Sto := (box? s x).bind fun nl => (ixN nl.2.length j).map fun k => s.set nl.1 (.lst (nl.2.set k d))
theorem wp_gmSub : wpR (gmSub o k d ρ s) QG E = wpR (o ρ s) (fun x s => wpR (k ρ s) (fun y s => wpO (asI y) fun j => wpO (sub? s x j d) fun s => QG ρ s) (fun _ _ => False)) (fun _ _ => False) := by
  unfold gmSub sub?
  rw [wpR_bnd, wpR_noX]
  refine wpR_ext fun x s => ?_
  rw [wpR_bnd, wpR_noX]
  refine wpR_ext fun y s => ?_
  cases y with
  | int j =>
    simp only [asI, wpO_some]
    cases box? s x with
    | none => walk_at "wpy"
    | some nl =>
      dsimp only [Option.bind_some]
      cases ixN nl.2.length j <;> walk_at "wpy"
  | _ => walk_at "wpy"
end
section
variable {ρ : Env} {s : Sto} {i j l : Nat} {a b c : ME} {r : MA} {m : MT} {x y : MS} {g : MG} {mi : MI} {N : Env → Sto → Prop} {Rt : D → Sto → Prop} {B C : Env → Sto → Prop} {E : Xc → Env → Sto → Prop}
theorem wp_mSeq : wpS (mSeq x y ρ s) N Rt B C E = wpS (x ρ s) (fun ρ s => wpS (y ρ s) N Rt B C E) Rt B C E := by
  unfold mSeq; rw [wpS_then]
theorem wp_mNext : wpS (mNext ρ s) N Rt B C E = N ρ s := wpS_nx
theorem wp_mBrk : wpS (mBrk ρ s) N Rt B C E = B ρ s := wpS_bk
theorem wp_mCnt : wpS (mCnt ρ s) N Rt B C E = C ρ s := wpS_ct
theorem wp_mExpr : wpS (mExpr a ρ s) N Rt B C E = wpR (a ρ s) (fun _ s => N ρ s) (fun e s => E e ρ s) := by
  unfold mExpr; walk_at "wpx"
theorem wp_mRet : wpS (mRet a ρ s) N Rt B C E = wpR (a ρ s) Rt (fun e s => E e ρ s) := by
  unfold mRet; walk_at "wpx"
theorem wp_mRetN : wpS (mRetN ρ s) N Rt B C E = Rt .non s := wpS_rt
theorem wp_mIf : wpS (mIf m x y ρ s) N Rt B C E = wpR (m ρ s) (fun k s => wpB k (wpS (x ρ s) N Rt B C E) (wpS (y ρ s) N Rt B C E)) (fun e s => E e ρ s) := by
  unfold mIf; walk_at "wpx"
theorem wp_mSet : wpS (mSet i a ρ s) N Rt B C E = wpR (a ρ s) (fun d s => N (ρ.set i (some d)) s) (fun e s => E e ρ s) := by
  unfold mSet; walk_at "wpx"
theorem wp_mPar : wpS (mPar i j r ρ s) N Rt B C E = wpR (r ρ s) (fun ds s => wpO (two ds) fun p => N ((ρ.set i (some p.1)).set j (some p.2)) s) (fun e s => E e ρ s) := by
  unfold mPar
  rw [wpS_bnd]
  refine wpR_ext fun ds s => ?_
  match ds with
  | [] => walk_at "wpy"
  | [_] => walk_at "wpy"
  | [_, _] => walk_at "wpy"
  | _ :: _ :: _ :: _ => walk_at "wpy"
theorem wp_mPar3 : wpS (mPar3 i j l r ρ s) N Rt B C E = wpR (r ρ s) (fun ds s => wpO (three ds) fun p => N (((ρ.set i (some p.1)).set j (some p.2.1)).set l (some p.2.2)) s) (fun e s => E e ρ s) := by
  unfold mPar3
  rw [wpS_bnd]
  refine wpR_ext fun ds s => ?_
  match ds with
  | [] => walk_at "wpy"
  | [_] => walk_at "wpy"
  | [_, _] => walk_at "wpy"
  | [_, _, _] => walk_at "wpy"
  | _ :: _ :: _ :: _ :: _ => walk_at "wpy"
theorem wp_mAsg : wpS (mAsg a g ρ s) N Rt B C E = wpR (a ρ s) (fun d s => wpR (g d ρ s) N (fun e s => E e ρ s)) (fun e s => E e ρ s) := by
  unfold mAsg; walk_at "wpx"
theorem wp_mFor : wpS (mFor mi g x ρ s) N Rt B C E = wpR (mi ρ s) (fun src s => wpS (forL src.2 g x src.1 ρ s) N Rt B C E) (fun e s => E e ρ s) := by
  unfold mFor; walk_at "wpx"
def dput? (s : Sto) (x y d : D) : Option Sto := match x with
  | .ref n => (key? y).bind fun k => (match s[n]? with
    | some (.dct l) => if l.length < 16777216 then some (s.set n (.dct (putD l k d))) else none
    | _ => none)
  | _ => none
theorem wp_mDPut : wpS (mDPut a b c ρ s) N Rt B C E = wpR (a ρ s) (fun d s => wpR (b ρ s) (fun x s => wpR (c ρ s) (fun y s => wpO (dput? s x y d) fun s => N ρ s) (fun e s => E e ρ s)) (fun e s => E e ρ s)) (fun e s => E e ρ s) := by
  unfold mDPut dput?
  rw [wpS_bnd]
  refine wpR_ext fun d s => ?_
  rw [wpS_bnd]
  refine wpR_ext fun x s => ?_
  rw [wpS_bnd]
  refine wpR_ext fun y s => ?_
  cases x with
  | ref n =>
    cases key? y with
    | none => walk_at "wpy"
    | some k =>
      dsimp only [Option.bind_some]
      cases h : s[n]? with
      | none => walk_at "wpy"
      | some o => cases o with
        | dct l => dsimp only; split <;> walk_at "wpy"
        | _ => walk_at "wpy"
  | _ => cases key? y <;> walk_at "wpy"
def fput? (s : Sto) (C f : Str) (x d : D) : Option Sto := (ins? s C x).bind fun nf => if nf.2.length < 1000 then some (s.set nf.1 (.ins C (putFD f d nf.2))) else none
theorem wp_mFldSet {Cl f : Str} : wpS (mFldSet Cl f a b ρ s) N Rt B C E = wpR (b ρ s) (fun d s => wpR (a ρ s) (fun x s => wpO (fput? s Cl f x d) fun s => N ρ s) (fun e s => E e ρ s)) (fun e s => E e ρ s) := by
  unfold mFldSet fput?
  rw [wpS_bnd]
  refine wpR_ext fun d s => ?_
  rw [wpS_bnd]
  refine wpR_ext fun x s => ?_
  cases ins? s Cl x with
  | none => walk_at "wpy"
  | some nf => dsimp only [Option.bind_some]; split <;> walk_at "wpy"
end
/-- comprehensions, by wpB -/
theorem wp_mYes {ρ : Env} {s : Sto} {QT : Bool → Sto → Prop} {E : XP} : wpR (mYes ρ s) QT E = QT true s := wpR_ok
theorem wp_lcB {G : Sto → Prop} {g : MG} {c : MT} {elt : ME} {ρ : Env} {Q : List D → Sto → Prop} {E : XP} (Inv : List D → List D → Sto → Prop)
    (hstep : ∀ d ds acc s, Inv (d :: ds) acc s → G s ∧ wpR (g d ρ s) (fun ρ1 s => wpR (c ρ1 s) (fun k s => wpB k (wpR (elt ρ1 s) (fun y s => Inv ds (acc ++ [y]) s) (fun _ _ => False)) (Inv ds acc s)) (fun _ _ => False)) (fun _ _ => False))
    (hend : ∀ acc s, Inv [] acc s → G s ∧ Q acc s) {ds : List D} {s : Sto} (h0 : Inv ds [] s) : wpR (lcL G g c elt ρ ds s) Q E := by
  exact wp_lc Inv (fun d ds acc s h => let ⟨h1, h2⟩ := hstep d ds acc s h; ⟨h1, wpR_mono h2 (fun ρ1 s1 h3 => wpR_mono h3 (fun k s2 h4 => wpB_def ▸ h4) fun _ _ z => z) fun _ _ z => z⟩) hend h0
end MP


set_option Elab.async false
set_option linter.all false
set_option maxRecDepth 100000
set_option maxHeartbeats 4000000
/-! PL4: the spring of draws in the store -/
namespace MP
variable [Wd]
open PySem L2
section
variable {q : Sp0} {t : Sto} {v : Int} {n : Nat} {o : Ob}
theorem stm_ix0 : fIx (stm q t) (.ref 1) (.int 0) = some (.ref 0) := id rfl
theorem stm_ix1 : fIx (stm q t) (.ref 1) (.int 1) = some (.int q.a) := id rfl
theorem stm_ix2 : fIx (stm q t) (.ref 1) (.int 2) = some (.int q.b) := id rfl
theorem stm_ix3 : fIx (stm q t) (.ref 1) (.int 3) = some (.int q.c) := id rfl
theorem stm_set1 : sub? (stm q t) (.ref 1) 1 (.int v) = some (stm { q with a := v } t) := id rfl
theorem stm_set2 : sub? (stm q t) (.ref 1) 2 (.int v) = some (stm { q with b := v } t) := id rfl
theorem stm_set3 : sub? (stm q t) (.ref 1) 3 (.int v) = some (stm { q with c := v } t) := id rfl
theorem stm_ne : fNe (stm q t) (.ref 0) (.lst []) = some (.bl (!q.l.isEmpty)) := fNe_ints_nil (n := 0) rfl
theorem stm_tyL0 : tyL (stm q t) (.ref 0) = true := id rfl
theorem stm_pop {x : Int} {l : List Int} (h : q.l = x :: l) : bPopAt (stm q t) (.ref 0) [.int 0] = some (.int x, stm { q with l := l } t) := by
  unfold bPopAt stm
  rw [h]
  simp only [box?, List.getElem?_cons_zero, Option.bind_some, List.map_cons, List.length_cons, List.set_cons_zero]
  have e : seqIndex? 0 ((l.map D.int).length + 1) = some 0 := by
    unfold seqIndex?
    simp
  rw [e]
  simp
theorem tyS_str {s : Sto} {z : Str} : tyS s (.str z) = true := id rfl
theorem gInt_int {s : Sto} {i : Int} : gInt s [.int i] = some (.int i) := id rfl
theorem stm_get : (stm q t)[n + 2]? = t[n]? := id rfl
theorem stm_len : (stm q t).length = t.length + 2 := id rfl
theorem stm_app : stm q t ++ [o] = stm q (t ++ [o]) := id rfl
theorem stm_upd : (stm q t).set (n + 2) o = stm q (t.set n o) := id rfl
section
variable {q : Sp0} {t : Sto} {k : Nat} {l : List D} {d : D}
theorem box_stm (h : t[k]? = some (.lst l)) : box? (stm q t) (.ref (k + 2)) = some (k + 2, l) := by
  unfold box?
  dsimp only
  rw [stm_get, h]
theorem tyL_stm (h : t[k]? = some (.lst l)) : tyL (stm q t) (.ref (k + 2)) = true := by
  unfold tyL lst?
  dsimp only
  rw [stm_get, h]
  rfl
theorem items_stm (h : t[k]? = some (.lst l)) : items? (stm q t) (.ref (k + 2)) = some l := by
  unfold items?
  dsimp only
  rw [stm_get, h]
theorem lst_stm (h : t[k]? = some (.lst l)) : lst? (stm q t) (.ref (k + 2)) = some l := by
  unfold lst?
  dsimp only
  rw [stm_get, h]
theorem seqOf_stm (h : t[k]? = some (.lst l)) : seqOf (stm q t) (.ref (k + 2)) = some (l, fun s => s[k + 2]? = some (.lst l)) := by
  unfold seqOf
  dsimp only
  rw [stm_get, h]
theorem gLen_stm (h : t[k]? = some (.lst l)) : gLen (stm q t) [.ref (k + 2)] = some (.int l.length) := by
  unfold gLen
  dsimp only
  rw [items_stm h]
  rfl
theorem fIx_stm (h : t[k]? = some (.lst l)) {i : Int} : fIx (stm q t) (.ref (k + 2)) (.int i) = atI l i := by
  unfold fIx
  dsimp only
  rw [lst_stm h]
  rfl
theorem app_stm (h : t[k]? = some (.lst l)) (hl : l.length ≤ 1000000) : bAppend (stm q t) (.ref (k + 2)) [d] = some (.non, stm q (t.set k (.lst (l ++ [d])))) := by
  unfold bAppend
  dsimp only
  rw [box_stm h, Option.bind_some]
  dsimp only
  rw [if_pos (by omega), stm_upd]
theorem kd_stm (h : t[k]? = some (.lst l)) : kdD (stm q t) (.ref (k + 2)) = some (.t "list") := by
  unfold kdD
  dsimp only
  rw [stm_get, h]
theorem sub_stm {i : Nat} (h : t[k]? = some (.lst l)) (hi : i < l.length) : sub? (stm q t) (.ref (k + 2)) (i : Int) d = some (stm q (t.set k (.lst (l.set i d)))) := by
  unfold sub?
  rw [box_stm h, Option.bind_some]
  dsimp only
  unfold ixN
  rw [if_pos (by omega), if_pos (by omega)]
  simp only [Option.map_some, Int.toNat_natCast, stm_upd]
theorem last_get {x : Ob} : (t ++ [x])[t.length]? = some x := by simp
theorem last_set {x y : Ob} : (t ++ [x]).set t.length y = t ++ [y] := by simp
end
end
end MP


set_option Elab.async false
set_option linter.all false
set_option maxRecDepth 100000
set_option maxHeartbeats 4000000
/-! PL5: wp of own items, properties, walked dicts, dict comprehensions, targets -/
namespace MP
variable [Wd]
open PySem L2
local macro_rules | `(tactic| walk_at "wpy") => `(tactic| first | rfl | (simp only [wpR_def, wpS_def, wpO_def, wpB_def, wpI_def]; rfl) | (simp only [wpR_def, wpS_def, wpO_def, wpB_def, wpI_def]; done))
section
variable {ρ : Env} {s : Sto} {i : Nat} {a b c : ME} {m : MT} {Q : D → Sto → Prop} {E : XP} {C : Str} {fm : FM} {mi : MI} {g : MG} {vs : List Nat} {QI : List D × (Sto → Prop) → Sto → Prop}
theorem wp_mItO : wpR (mItO C fm a b ρ s) Q E = wpR (a ρ s) (fun x s => wpR (b ρ s) (fun y s => wpI ((ins? s C x).isSome = true) (wpR (fm [x, y] s) Q E)) E) E := by
  unfold mItO
  rw [wpR_bnd]
  refine wpR_ext fun x s => ?_
  rw [wpR_bnd]
  refine wpR_ext fun y s => ?_
  cases ins? s C x with
  | none => simp [wpI_def]
  | some nf => simp only [Option.isSome_some, wpI_true]
theorem wp_mProp : wpR (mProp C fm a ρ s) Q E = wpR (a ρ s) (fun x s => wpI ((ins? s C x).isSome = true) (wpR (fm [x] s) Q (fun _ _ => False))) E := by
  unfold mProp
  rw [wpR_bnd]
  refine wpR_ext fun x s => ?_
  cases ins? s C x with
  | none => simp [wpI_def]
  | some nf => simp only [Option.isSome_some, wpI_true]; rw [wpR_noX]
theorem wp_mLockE : wpR (mLockE i a ρ s) Q E = wpO (lockN ρ i s) (fun nl => wpR (a ρ (s.set nl.1 (.dfz nl.2))) (fun d s2 => Q d (s2.set nl.1 (.dct nl.2))) (fun _ _ => False)) := by
  unfold mLockE
  cases lockN ρ i s with
  | none => walk_at "wpy"
  | some nl =>
    obtain ⟨n, l⟩ := nl
    rw [wpO_some]
    dsimp only
    cases a ρ (s.set n (.dfz l)) with
    | none => walk_at "wpy"
    | some r => cases r <;> walk_at "wpy"
theorem wp_miKeys : wpR (miKeys a ρ s) QI E = wpR (a ρ s) (fun d s => wpO (fz? s d) fun l => QI (l.map (fun kv => keyD kv.1), any_) s) E := by
  unfold miKeys
  rw [wpR_bnd]
  refine wpR_ext fun d s => ?_
  cases fz? s d <;> walk_at "wpy"
theorem wp_miItems : wpR (miItems a ρ s) QI E = wpR (a ρ s) (fun d s => wpO (fz? s d) fun l => QI (l.map (fun kv => .tup [keyD kv.1, kv.2]), any_) s) E := by
  unfold miItems
  rw [wpR_bnd]
  refine wpR_ext fun d s => ?_
  cases fz? s d <;> walk_at "wpy"
theorem wp_mDc : wpR (mDc mi vs g m a b ρ s) Q E = wpR (mi ρ s) (fun src s => wpI (src.1.length ≤ 16777216) (wpR (dcL src.2 g m a b (wipeE ρ vs) src.1 [] s) (fun l s => Q (.ref s.length) (s ++ [.dct l])) E)) E := by
  unfold mDc
  rw [wpR_bnd, wpR_bnd]
  refine wpR_ext fun src s => ?_
  rw [wpR_cond]
  refine wpI_ext ?_
  refine wpR_ext fun l s => ?_
  rw [wpR_ok]
end
section
variable {d : D} {ρ : Env} {s : Sto} {QG : Env → Sto → Prop} {E : XP} {o k : ME} {C f : Str}
theorem wp_gmDSub : wpR (gmDSub o k d ρ s) QG E = wpR (o ρ s) (fun x s => wpR (k ρ s) (fun y s => wpO (dput? s x y d) fun s => QG ρ s) (fun _ _ => False)) (fun _ _ => False) := by
  unfold gmDSub dput?
  rw [wpR_bnd, wpR_noX]
  refine wpR_ext fun x s => ?_
  rw [wpR_bnd, wpR_noX]
  refine wpR_ext fun y s => ?_
  cases x with
  | ref n =>
    cases key? y with
    | none => walk_at "wpy"
    | some k =>
      dsimp only [Option.bind_some]
      cases h : s[n]? with
      | none => walk_at "wpy"
      | some o => cases o with
        | dct l => dsimp only; split <;> walk_at "wpy"
        | _ => walk_at "wpy"
  | _ => cases key? y <;> walk_at "wpy"
theorem wp_gmFld : wpR (gmFld C f o d ρ s) QG E = wpR (o ρ s) (fun x s => wpO (fput? s C f x d) fun s => QG ρ s) (fun _ _ => False) := by
  unfold gmFld fput?
  rw [wpR_bnd, wpR_noX]
  refine wpR_ext fun x s => ?_
  cases ins? s C x with
  | none => walk_at "wpy"
  | some nf => dsimp only [Option.bind_some]; split <;> walk_at "wpy"
end
section
variable {ρ : Env} {s : Sto} {a b c : ME} {Cl : Str} {fm fs : FM} {N : Env → Sto → Prop} {Rt : D → Sto → Prop} {B C : Env → Sto → Prop} {E : Xc → Env → Sto → Prop} {i : Nat} {x : MS}
theorem wp_mItSet : wpS (mItSet Cl fm a b c ρ s) N Rt B C E = wpR (a ρ s) (fun d s => wpR (b ρ s) (fun x s => wpR (c ρ s) (fun y s => wpI ((ins? s Cl x).isSome = true) (wpR (fm [x, y, d] s) (fun _ s => N ρ s) (fun e s => E e ρ s))) (fun e s => E e ρ s)) (fun e s => E e ρ s)) (fun e s => E e ρ s) := by
  unfold mItSet
  rw [wpS_bnd]
  refine wpR_ext fun d s => ?_
  rw [wpS_bnd]
  refine wpR_ext fun x s => ?_
  rw [wpS_bnd]
  refine wpR_ext fun y s => ?_
  cases ins? s Cl x with
  | none => simp [wpI_def]
  | some nf =>
    simp only [Option.isSome_some, wpI_true]
    rw [wpS_bnd]
    refine wpR_ext fun _ s => ?_
    rw [wpS_nx]
theorem wp_mItAug : wpS (mItAug Cl fm fs a b c ρ s) N Rt B C E = wpR (a ρ s) (fun x s => wpR (b ρ s) (fun y s => wpI ((ins? s Cl x).isSome = true) (wpR (fm [x, y] s) (fun old s => wpR (c ρ s) (fun d s => wpO (asI old) fun i => wpO (asI d) fun j => wpI ((ins? s Cl x).isSome = true) (wpR (fs [x, y, .int (i + j)] s) (fun _ s => N ρ s) (fun e s => E e ρ s))) (fun e s => E e ρ s)) (fun e s => E e ρ s))) (fun e s => E e ρ s)) (fun e s => E e ρ s) := by
  unfold mItAug
  rw [wpS_bnd]
  refine wpR_ext fun x s => ?_
  rw [wpS_bnd]
  refine wpR_ext fun y s => ?_
  cases ins? s Cl x with
  | none => simp [wpI_def]
  | some nf =>
    simp only [Option.isSome_some, wpI_true]
    rw [wpS_bnd]
    refine wpR_ext fun old s => ?_
    rw [wpS_bnd]
    refine wpR_ext fun d s => ?_
    cases old with
    | int i => cases d with
      | int j =>
        simp only [asI, wpO_some]
        cases ins? s Cl x with
        | none => simp [wpI_def]
        | some nf =>
          simp only [Option.isSome_some, wpI_true]
          rw [wpS_bnd]
          refine wpR_ext fun _ s => ?_
          rw [wpS_nx]
      | _ => walk_at "wpy"
    | _ => cases d <;> walk_at "wpy"
end
end MP


set_option Elab.async false
set_option linter.all false
set_option maxRecDepth 100000
set_option maxHeartbeats 4000000
/-! PLN: wp of dicts with nested keys -/
namespace MP
variable [Wd]
open PySem L2
section
variable {ρ : Env} {s : Sto} {i : Nat} {a b c : ME} {m : MT} {Q : D → Sto → Prop} {E : XP} {mi : MI} {g : MG} {vs : List Nat} {QI : List D × (Sto → Prop) → Sto → Prop}
def ng? (s : Sto) (x y : D) : Option D := (nd? s x).bind fun l => (nk? y).bind fun k => getNd l k
def nq? (s : Sto) (x y : D) : Option (Option D) := (nd? s x).bind fun l => (nk? y).map fun k => getNd l k
def np? (s : Sto) (x y d : D) : Option Sto := match x with
  | .ref n => (nk? y).bind fun k => (match s[n]? with
    | some (.dn l) => if l.length < 16777216 then some (s.set n (.dn (putNd l k y d))) else none
    | _ => none)
  | _ => none
theorem wp_mNGet : wpR (mNGet a b ρ s) Q E = wpR (a ρ s) (fun x s => wpR (b ρ s) (fun y s => wpO (ng? s x y) fun d => Q d s) E) E := by
  unfold mNGet ng?
  rw [wpR_bnd]
  refine wpR_ext fun x s => ?_
  rw [wpR_bnd]
  refine wpR_ext fun y s => ?_
  cases nd? s x with
  | none => simp only [Option.bind_none, wpO_none, wpR_none]
  | some l => cases nk? y with
    | none => simp only [Option.bind_some, Option.bind_none, wpO_none, wpR_none]
    | some k => simp only [Option.bind_some]; rw [wpR_ofO]
theorem wp_mNGet1 : wpR (mNGet1 a b ρ s) Q E = wpR (a ρ s) (fun x s => wpI ((nd? s x).isSome = true) (wpR (b ρ s) (fun y s => wpO (nq? s x y) fun o => Q (o.getD .non) s) E)) E := by
  unfold mNGet1 nq?
  rw [wpR_bnd]
  refine wpR_ext fun x s => ?_
  rw [wpR_cond]
  refine wpI_ext ?_
  rw [wpR_bnd]
  refine wpR_ext fun y s => ?_
  cases nd? s x with
  | none => simp only [Option.bind_none, wpO_none, wpR_none]
  | some l => cases nk? y with
    | none => simp only [Option.bind_some, Option.map_none, wpO_none, wpR_none]
    | some k => simp only [Option.bind_some, Option.map_some, wpO_some, wpR_ok]
theorem wp_mNIn : wpR (mNIn a b ρ s) Q E = wpR (a ρ s) (fun y s => wpR (b ρ s) (fun x s => wpO (nq? s x y) fun o => Q (.bl o.isSome) s) E) E := by
  unfold mNIn nq?
  rw [wpR_bnd]
  refine wpR_ext fun y s => ?_
  rw [wpR_bnd]
  refine wpR_ext fun x s => ?_
  cases nd? s x with
  | none => simp only [Option.bind_none, wpO_none, wpR_none]
  | some l => cases nk? y with
    | none => simp only [Option.bind_some, Option.map_none, wpO_none, wpR_none]
    | some k => simp only [Option.bind_some, Option.map_some, wpO_some, wpR_ok]
theorem wp_mNNotIn : wpR (mNNotIn a b ρ s) Q E = wpR (a ρ s) (fun y s => wpR (b ρ s) (fun x s => wpO (nq? s x y) fun o => Q (.bl (!o.isSome)) s) E) E := by
  unfold mNNotIn nq?
  rw [wpR_bnd]
  refine wpR_ext fun y s => ?_
  rw [wpR_bnd]
  refine wpR_ext fun x s => ?_
  cases nd? s x with
  | none => simp only [Option.bind_none, wpO_none, wpR_none]
  | some l => cases nk? y with
    | none => simp only [Option.bind_some, Option.map_none, wpO_none, wpR_none]
    | some k => simp only [Option.bind_some, Option.map_some, wpO_some, wpR_ok]
theorem wp_mNNew : wpR (mNNew ρ s) Q E = Q (.ref s.length) (s ++ [.dn []]) := wpR_ok
theorem wp_miKeysN : wpR (miKeysN a ρ s) QI E = wpR (a ρ s) (fun d s => wpO (ndz? s d) fun l => QI (l.map (·.1), any_) s) E := by
  unfold miKeysN
  rw [wpR_bnd]
  refine wpR_ext fun d s => ?_
  cases ndz? s d <;> simp only [wpO_none, wpR_none, wpO_some, wpR_ok]
theorem wp_mNDc : wpR (mNDc mi vs g m a b ρ s) Q E = wpR (mi ρ s) (fun src s => wpI (src.1.length ≤ 16777216) (wpR (ndL src.2 g m a b (wipeE ρ vs) src.1 [] s) (fun l s => Q (.ref s.length) (s ++ [.dn l])) E)) E := by
  unfold mNDc
  rw [wpR_bnd, wpR_bnd]
  refine wpR_ext fun src s => ?_
  rw [wpR_cond]
  refine wpI_ext ?_
  refine wpR_ext fun l s => ?_
  rw [wpR_ok]
end
section
variable {ρ : Env} {s : Sto} {i : Nat} {a b c : ME} {x : MS} {N : Env → Sto → Prop} {Rt : D → Sto → Prop} {B C : Env → Sto → Prop} {E : Xc → Env → Sto → Prop}
theorem wp_mNPut : wpS (mNPut a b c ρ s) N Rt B C E = wpR (a ρ s) (fun d s => wpR (b ρ s) (fun x s => wpR (c ρ s) (fun y s => wpO (np? s x y d) fun s => N ρ s) (fun e s => E e ρ s)) (fun e s => E e ρ s)) (fun e s => E e ρ s) := by
  unfold mNPut np?
  rw [wpS_bnd]
  refine wpR_ext fun d s => ?_
  rw [wpS_bnd]
  refine wpR_ext fun x s => ?_
  rw [wpS_bnd]
  refine wpR_ext fun y s => ?_
  cases x with
  | ref n =>
    cases nk? y with
    | none => simp only [Option.bind_none, wpO_none, wpS_none]
    | some k =>
      dsimp only [Option.bind_some]
      cases h : s[n]? with
      | none => simp only [wpO_none, wpS_none]
      | some o => cases o with
        | dn l => dsimp only; split <;> simp only [wpO_none, wpS_none, wpO_some, wpS_nx]
        | _ => simp only [wpO_none, wpS_none]
  | _ => cases nk? y <;> simp only [wpO_none, wpS_none]
theorem wp_mHeldS : wpS (mHeldS i x ρ s) N Rt B C E = wpO (held ρ i s) fun nl => wpS (x ρ (s.set nl.1 (.dnz nl.2))) (fun ρ s2 => N ρ (s2.set nl.1 (.dn nl.2))) (fun d s2 => Rt d (s2.set nl.1 (.dn nl.2))) (fun ρ s2 => B ρ (s2.set nl.1 (.dn nl.2))) (fun ρ s2 => C ρ (s2.set nl.1 (.dn nl.2))) (fun _ _ _ => False) := by
  unfold mHeldS
  cases held ρ i s with
  | none => simp only [wpO_none, wpS_none]
  | some nl =>
    obtain ⟨n, l⟩ := nl
    rw [wpO_some]
    dsimp only
    cases x ρ (s.set n (.dnz l)) with
    | none => simp only [opn, wpS_none]
    | some r => cases r <;> simp only [wpS_def, opn, vpS]
end
end MP


set_option Elab.async false
set_option linter.all false
set_option maxRecDepth 100000
set_option maxHeartbeats 8000000
/-! TBK: names, words compared -/
namespace MP
variable [Wd]
open PySem L2
theorem sok {z : Str} (h : z.cps.toList.all (fun c => decide (c < 1114112)) = true) : PyData.strOk z = true := by
  unfold PyData.strOk
  rw [← Array.all_toList]
  exact h
structure NameOk (z : Str) : Prop where
  lo : 1 ≤ z.cps.size
  hi : z.cps.size ≤ 8
  all : ∀ c ∈ z.cps.toList, 97 ≤ c ∧ c ≤ 122
theorem NameOk.str {z : Str} (h : NameOk z) : PyData.strOk z = true := by
  unfold PyData.strOk
  rw [Array.all_eq_true']
  intro c hc
  have := h.all c (Array.mem_toList_iff.mpr hc)
  simp
  omega
theorem kq_of {s : Sto} {a b : Str} {k : Bool} (h : (a.cps.toList.all (fun c => decide (c < 1114112)) && (b.cps.toList.all (fun c => decide (c < 1114112)) && (decide (a = b) == k))) = true) : fEq s (.str a) (.str b) = some (.bl k) := by
  simp only [Bool.and_eq_true, beq_iff_eq] at h
  rw [fEq_str (sok h.1) (sok h.2.1), h.2.2]
theorem kn_of {s : Sto} {a b : Str} {k : Bool} (h : (a.cps.toList.all (fun c => decide (c < 1114112)) && (b.cps.toList.all (fun c => decide (c < 1114112)) && (decide (a = b) == k))) = true) : fNe s (.str a) (.str b) = some (.bl !k) := by
  simp only [Bool.and_eq_true, beq_iff_eq] at h
  rw [fNe_str (sok h.1) (sok h.2.1), h.2.2]
theorem eqF_str {a b : Str} : eqF (.str a) (.str b) = decide (a = b) := by rw [← beq_dec]; rfl
theorem inF_str {z : Str} : ∀ zs : List Str, inF (.str z) (zs.map D.str) = decide (z ∈ zs)
  | [] => by simp [inF]
  | y :: zs => by
    have ih := inF_str (z := z) zs
    unfold inF at ih ⊢
    rw [List.map_cons, List.any_cons, ih, eqF_str]
    by_cases h : y = z
    · subst h; simp
    · simp [h, Ne.symm h]
theorem flat_strs : ∀ zs : List Str, (zs.map D.str).all flatD = true
  | [] => rfl
  | z :: zs => by rw [List.map_cons, List.all_cons, flat_strs zs]; rfl
theorem fNotIn_strs {s : Sto} {x : D} {z : Str} {zs : List Str} (h : items? s x = some (zs.map .str)) (hx : ∀ w, x ≠ .str w) : fNotIn s (.str z) x = some (.bl !decide (z ∈ zs)) := by
  unfold fNotIn in?
  cases x with
  | str w => exact absurd rfl (hx w)
  | _ =>
    first
    | (dsimp only; rw [h]; dsimp only; rw [if_pos (by rw [flat_strs]; rfl), inF_str]; rfl)
    | cases h
theorem fIn_strs {s : Sto} {x : D} {z : Str} {zs : List Str} (h : items? s x = some (zs.map .str)) (hx : ∀ w, x ≠ .str w) : fIn s (.str z) x = some (.bl (decide (z ∈ zs))) := by
  unfold fIn in?
  cases x with
  | str w => exact absurd rfl (hx w)
  | _ =>
    first
    | (dsimp only; rw [h]; dsimp only; rw [if_pos (by rw [flat_strs]; rfl), inF_str]; rfl)
    | cases h
theorem ki_of {s : Sto} {a : Str} (zs : List Str) {k : Bool} (h : decide (a ∈ zs) = k) : fIn s (.str a) (.tup (zs.map D.str)) = some (.bl k) := by
  rw [fIn_strs (zs := zs) rfl (fun w e => by cases e), h]
end MP


set_option hygiene false
local macro_rules | `(tactic| walk_at "wp") => `(tactic| try simp only [↓wp_mSeq, ↓wp_mNext, ↓wp_mBrk, ↓wp_mCnt, ↓wp_mExpr, ↓wp_mRet, ↓wp_mRetN, ↓wp_mIf, ↓wp_mSet, ↓wp_mPar, ↓wp_mPar3, ↓wp_mAsg, ↓wp_mFor, ↓wp_mDPut, ↓wp_mFldSet, ↓wp_mVar, ↓wp_mC, ↓wp_mOp, ↓wp_mUn, ↓wp_mNil, ↓wp_mCons, ↓wp_mStar, ↓wp_mTup, ↓wp_mLst, ↓wp_mLstB, ↓wp_mIfE, ↓wp_mTst, ↓wp_mNot, ↓wp_mAnd, ↓wp_mOr, ↓wp_mAndV, ↓wp_mOrV, ↓wp_mNotV, ↓wp_mChain, ↓wp_mCall, ↓wp_mCallB, ↓wpO_pu, ↓wp_mBm, ↓wp_mBm0, ↓wp_moN, ↓wp_moS, ↓wp_mSl, ↓wp_mIsi, ↓wp_mTab, ↓wp_mTabIn, ↓wp_mTabNotIn, ↓wp_mDGet, ↓wp_mDGet2, ↓wp_mDNew, ↓wp_mSortSet, ↓wp_mSortSetB, ↓wp_mLenSet, ↓wp_mFrz, ↓wp_mFld, ↓wp_mMeth, ↓wp_mMake, ↓wp_mLenO, ↓wp_mEqO, ↓wp_mNeO, ↓wp_mLc, ↓wp_mLcB, ↓wp_miSeq, ↓wp_miRng, ↓wp_miZip, ↓wp_miEnum, ↓wp_gmName, ↓wp_gmNil, ↓wp_gmCons, ↓wp_gmTup, ↓wp_gmSub, ↓wp_mYes, ↓wp_mItO, ↓wp_mProp, ↓wp_mLockE, ↓wp_miKeys, ↓wp_miItems, ↓wp_mDc, ↓wp_gmDSub, ↓wp_gmFld, ↓wp_mItSet, ↓wp_mItAug, ↓wpR_ok, wpO_some, wpB_true, wpB_false, wpB_not, wpI_true, asB_bl, asI_int, asT_tup, asS_str, two_two, three_three, isNon_non, cI_int, pad, wipeE, List.getElem?_cons_zero, List.getElem?_cons_succ, List.set_cons_zero, List.set_cons_succ, fAdd_int, fSub_int, fLt_int, fLe_int, fGt_int, fGe_int, fEq_int, fNe_int, fNeg_int, stm_ix0, stm_ix1, stm_ix2, stm_ix3, stm_set1, stm_set2, stm_set3, stm_ne, stm_tyL0, gInt_int, tyS_str, stm_len, stm_app])
set_option hygiene true
set_option Elab.async false
set_option linter.all false
set_option maxRecDepth 100000
set_option maxHeartbeats 4000000
/-! PD: one draw -/
namespace MP
variable [Wd]
open PySem L2
theorem draw_end {q : Sp0} {t : Sto} {m : Int} (hq : q.Ok) (hb : q.b < 10000001) (hm : 0 < m) (hm2 : m < 1073741824) {x y : Option D} {b : Int} (e : q.b = b + 1) {N : Env → Sto → Prop} {B C : Env → Sto → Prop} {E : Xc → Env → Sto → Prop} :
    wpS (mSeq (mIf (mTst (mOp fGt (mOp fIx (mVar 0) (mC (.int 1))) (mC (.int 0)))) (mSeq (mSet 3 (mOp fMod (mCallB (pu gInt) (mCons (mOp fIx (mVar 0) (mC (.int 1))) (mNil))) (mVar 1)))
      (mSeq (mAsg (mOp fDiv (mOp fIx (mVar 0) (mC (.int 1))) (mVar 1)) (gmSub (mVar 0) (mC (.int 1))))
      (mRet (mVar 3)))) (mNext))
      (mSeq (mSet 2 (mOp fMod (mOp fPow (mOp fAdd (mOp fAdd (mOp fIx (mVar 0) (mC (.int 3))) (mOp fMul (mC (.int 104729)) (mOp fIx (mVar 0) (mC (.int 2))))) (mC (.int 17))) (mC (.int 5))) (mC (.int 2147483629))))
      (mRet (mOp fMod (mOp fMod (mOp fPow (mOp fAdd (mOp fAdd (mOp fMul (mVar 2) (mC (.int 48271))) (mOp fMul (mOp fMul (mC (.int 40503)) (mOp fIx (mVar 0) (mC (.int 2)))) (mOp fIx (mVar 0) (mC (.int 2))))) (mC (.int 13))) (mC (.int 3))) (mC (.int 1000000007))) (mVar 1)))) [some (.ref 1), some (.int m), x, y] (stm q t))
      N (fun d s' => ∃ (i : Nat) (q' : Sp0), d = .int i ∧ (i : Int) < m ∧ s' = stm q' t ∧ q'.Ok ∧ q'.b = b + 1) B C E := by
  have h0 := hq.a
  have h1 := hq.b
  have h2 := hq.c
  have h3 := hq.c2
  walk_at "wp"
  refine wpB_dec (fun ha => ?_) (fun ha => ?_)
  · walk_at "wp"
    rw [fMod_int hm]
    walk_at "wp"
    rw [fDiv_int hm hm2]
    walk_at "wp"
    have e1 := Int.emod_nonneg q.a (show m ≠ 0 by omega)
    refine ⟨(q.a % m).toNat, _, by rw [Int.toNat_of_nonneg e1], by rw [Int.toNat_of_nonneg e1]; exact Int.emod_lt_of_pos _ hm, rfl, ⟨Int.ediv_nonneg h0 (by omega), h1, h2, h3⟩, e⟩
  · walk_at "wp"
    rw [fMul_int (cMul_l (by decide) (by decide))]
    walk_at "wp"
    rw [fPow_int (by decide) (by decide) (by omega)]
    walk_at "wp"
    rw [fMod_int (by decide)]
    walk_at "wp"
    generalize hg : (q.c + 104729 * q.b + 17) ^ (5 : Int).toNat % 2147483629 = g
    have g0 : 0 ≤ g := by rw [← hg]; exact Int.emod_nonneg _ (by decide)
    have g1 : g < 2147483629 := by rw [← hg]; exact Int.emod_lt_of_pos _ (by decide)
    rw [fMul_int (cMul_r (by decide) (by decide))]
    walk_at "wp"
    rw [fMul_int (cMul_l (by decide) (by decide))]
    walk_at "wp"
    rw [fMul_int (cMul_r (by omega) (by omega))]
    walk_at "wp"
    have hbb : 40503 * q.b * q.b < 40503 * 10000001 * 10000001 + 1 := by
      have := Int.mul_le_mul (show 40503 * q.b ≤ 40503 * 10000001 by omega) (show q.b ≤ 10000001 by omega) h1 (by decide)
      omega
    have hb0 : 0 ≤ 40503 * q.b * q.b := Int.mul_nonneg (by omega) h1
    rw [fPow_int (by decide) (by decide) (by omega)]
    walk_at "wp"
    rw [fMod_int (by decide)]
    walk_at "wp"
    rw [fMod_int hm]
    walk_at "wp"
    have e1 := Int.emod_nonneg ((g * 48271 + 40503 * q.b * q.b + 13) ^ (3 : Int).toNat % 1000000007) (show m ≠ 0 by omega)
    exact ⟨_, q, by rw [Int.toNat_of_nonneg e1], by rw [Int.toNat_of_nonneg e1]; exact Int.emod_lt_of_pos _ hm, rfl, hq, e⟩
/-- a draw -/
theorem draw_spec {q : Sp0} {t : Sto} {m : Int} (hq : q.Ok) (hb : q.b < 10000000) (hm : 0 < m) (hm2 : m < 1073741824) :
    wpR (l_draw [.ref 1, .int m] (stm q t)) (fun d s' => ∃ (i : Nat) (q' : Sp0), d = .int i ∧ (i : Int) < m ∧ s' = stm q' t ∧ q'.Ok ∧ q'.b = q.b + 1) (fun _ _ => False) := by
  have h0 := hq.a
  have h1 := hq.b
  have h2 := hq.c
  have h3 := hq.c2
  unfold l_draw
  refine wp_fn (by simp) ?_
  rw [wp_mSeq, wp_mAsg]
  simp only [↓wp_mOp, ↓wp_mVar, ↓wp_mC, List.getElem?_cons_zero, wpO_some, stm_ix2, fAdd_int, ↓wp_gmSub, asI_int, stm_set2, pad]
  rw [wp_mSeq, wp_mIf]
  simp only [↓wp_mAnd, ↓wp_mTst, ↓wp_mOp, ↓wp_mVar, ↓wp_mC, List.getElem?_cons_zero, wpO_some, stm_ix1, fEq_int, asB_bl]
  refine wpB_dec (fun ha => ?_) (fun ha => ?_)
  · simp only [↓wp_mOp, ↓wp_mTst, ↓wp_mVar, ↓wp_mC, ↓wp_mLst, ↓wp_mNil, List.getElem?_cons_zero, wpO_some, stm_ix0, stm_ne, asB_bl, List.length_nil, Nat.zero_le, wpI_true]
    cases hl : q.l with
    | nil =>
      simp only [List.isEmpty_nil, Bool.not_true, wpB_false, ↓wp_mNext]
      exact draw_end (q := ⟨[], q.a, q.b + 1, q.c⟩) (b := q.b) ⟨h0, by show 0 ≤ q.b + 1; omega, h2, h3⟩ (by show q.b + 1 < _; omega) hm hm2 rfl
    | cons v l =>
      simp only [List.isEmpty_cons, Bool.not_false, wpB_true]
      rw [wp_mSeq, wp_mAsg]
      simp only [↓wp_mBm, ↓wp_mOp, ↓wp_mVar, ↓wp_mC, ↓wp_mCons, ↓wp_mNil, List.getElem?_cons_zero, wpO_some, stm_ix0, stm_tyL0, wpI_true, stm_pop (q := ⟨v :: l, q.a, q.b + 1, q.c⟩) rfl, ↓wp_gmSub, asI_int, stm_set1]
      rw [wp_mIf]
      simp only [↓wp_mTst, ↓wp_mOp, ↓wp_mVar, ↓wp_mC, List.getElem?_cons_zero, wpO_some, stm_ix1]
      rw [fPow_int (by decide) (by decide) (by decide)]
      simp only [wpO_some, fLt_int, asB_bl]
      refine wpB_dec (fun hv => ?_) (fun hv => ?_)
      · rw [wp_mSeq, wp_mAsg]
        simp only [↓wp_mOp, ↓wp_mVar, ↓wp_mC, ↓wp_mCallB, ↓wpO_pu, ↓wp_mCons, ↓wp_mNil, List.getElem?_cons_zero, wpO_some, stm_ix3]
        rw [fMul_int (cMul_r (by decide) (by decide))]
        simp only [↓wp_mOp, ↓wp_mVar, ↓wp_mC, ↓wp_mCallB, ↓wpO_pu, ↓wp_mCons, ↓wp_mNil, List.getElem?_cons_zero, wpO_some, stm_ix1, fAdd_int, gInt_int]
        rw [fMod_int (by decide)]
        simp only [wpO_some, ↓wp_gmSub, ↓wp_mVar, ↓wp_mC, List.getElem?_cons_zero, asI_int, stm_set3, ↓wp_mAsg, stm_set1]
        exact draw_end (b := q.b) ⟨Int.le_refl 0, by show 0 ≤ q.b + 1; omega, Int.emod_nonneg _ (by decide), Int.emod_lt_of_pos _ (by decide)⟩ (by show q.b + 1 < _; omega) hm hm2 rfl
      · simp only [↓wp_mNext]
        have e18 : (10 : Int) ^ (18 : Int).toNat = 1000000000000000000 := by decide
        rw [e18] at hv
        exact draw_end (q := ⟨l, v, q.b + 1, q.c⟩) (b := q.b) ⟨by show 0 ≤ v; omega, by show 0 ≤ q.b + 1; omega, h2, h3⟩ (by show q.b + 1 < _; omega) hm hm2 rfl
  · rw [wpB_false]
    simp only [↓wp_mNext]
    exact draw_end (q := ⟨q.l, q.a, q.b + 1, q.c⟩) (b := q.b) ⟨h0, by show 0 ≤ q.b + 1; omega, h2, h3⟩ (by show q.b + 1 < _; omega) hm hm2 rfl
end MP


set_option Elab.async false
set_option linter.all false
set_option maxRecDepth 100000
set_option maxHeartbeats 4000000
/-! PG1: picks, names, numbers -/
namespace MP
variable [Wd]
open PySem L2
/-- the spring went on by at most k draws -/
structure Adv (q q' : Sp0) (k : Int) : Prop where
  ok : q'.Ok
  lo : q.b ≤ q'.b
  hi : q'.b ≤ q.b + k
theorem Adv.refl {q : Sp0} (h : q.Ok) : Adv q q 0 := ⟨h, Int.le_refl _, by omega⟩
theorem Adv.trans {q q1 q2 : Sp0} {k l m : Int} (a : Adv q q1 k) (b : Adv q1 q2 l) (h : k + l ≤ m) : Adv q q2 m := ⟨b.ok, by have := a.lo; have := b.lo; omega, by have := a.hi; have := b.hi; omega⟩
theorem Adv.mono {q q1 : Sp0} {k m : Int} (a : Adv q q1 k) (h : k ≤ m) : Adv q q1 m := ⟨a.ok, a.lo, by have := a.hi; omega⟩
theorem le_line {n : Nat} (h : n ≤ 1000) : n ≤ 16777216 := by omega
/-- a draw, as a rule -/
theorem wp_draw {q : Sp0} {t : Sto} {m : Int} {Q : D → Sto → Prop} {E : XP} (hq : q.Ok) (hb : q.b < 10000000) (hm : 0 < m) (hm2 : m < 1073741824)
    (h : ∀ (i : Nat) (q' : Sp0), (i : Int) < m → Adv q q' 1 → Q (.int i) (stm q' t)) : wpR (l_draw [.ref 1, .int m] (stm q t)) Q E := by
  refine wpR_imp (draw_spec hq hb hm hm2) ?_
  rintro _ _ ⟨i, q', rfl, h1, rfl, h2, h3⟩
  exact h i q' h1 ⟨h2, by omega, by omega⟩
theorem wp_pick {q : Sp0} {t : Sto} {x : D} {n : Nat} {Q : D → Sto → Prop} {E : XP} (hq : q.Ok) (hb : q.b < 10000000) (hn : 0 < n) (hn2 : n < 1000000) (hl : ∀ q, gLen (stm q t) [x] = some (.int n))
    (h : ∀ (i : Nat) (q' : Sp0), i < n → Adv q q' 1 → wpO (fIx (stm q' t) x (.int i)) fun d => Q d (stm q' t)) : wpR (l_pick [.ref 1, x] (stm q t)) Q E := by
  unfold l_pick
  refine wp_fn (by simp) ?_
  walk_at "wp"
  simp only [hl, wpO_some]
  walk_at "wp"
  refine wp_draw hq hb (by omega) (by omega) fun i q' h1 h2 => ?_
  exact h i q' (by omega) h2
/-! ### names -/
abbrev letters : Str := "abcdefghijklmnopqrstuvwxyz"
theorem letters_list : letters.cps.toList = [97, 98, 99, 100, 101, 102, 103, 104, 105, 106, 107, 108, 109, 110, 111, 112, 113, 114, 115, 116, 117, 118, 119, 120, 121, 122] := by decide
theorem letters_len : letters.length = 26 := by decide
theorem gLen_letters {s : Sto} : gLen s [.str letters] = some (.int (26 : Nat)) := by
  unfold gLen
  dsimp only
  rw [letters_len, if_pos (by decide)]
theorem letters_at {i : Nat} (h : i < 26) : letters.cps.toList[i]? = some (97 + i) := by
  rw [letters_list]
  rcases i with _|_|_|_|_|_|_|_|_|_|_|_|_|_|_|_|_|_|_|_|_|_|_|_|_|_|i <;> first | rfl | omega
theorem fIx_letter {s : Sto} {i : Nat} (h : i < 26) : fIx s (.str letters) (.int i) = some (.str ⟨#[97 + i]⟩) := by
  unfold fIx
  dsimp only
  rw [if_pos (by rw [letters_len]; decide), atI_nat (letters_at h)]
  rfl
theorem join_one : ∀ l : List Nat, (Str.join Str.empty (l.map fun c => (⟨#[c]⟩ : Str))).cps.toList = l
  | [] => rfl
  | [c] => rfl
  | c :: d :: l => by
    have ih := join_one (d :: l)
    show ((⟨#[c]⟩ : Str) ++ Str.empty ++ Str.join Str.empty ((d :: l).map fun c => (⟨#[c]⟩ : Str))).cps.toList = _
    have e : ∀ x y : Str, (x ++ y).cps.toList = x.cps.toList ++ y.cps.toList := fun x y => Array.toList_append
    rw [e, e, ih]
    rfl
theorem join_sum : ∀ l : List Nat, ((l.map fun c => (⟨#[c]⟩ : Str)).map (·.length)).sum = l.length
  | [] => rfl
  | c :: l => by simp only [List.map_cons, List.sum_cons, List.length_cons, join_sum l]; show 1 + l.length = _; omega
theorem join_letters {s : Sto} {l : List Nat} (h : l.length ≤ 8) : bJoin s (.str "") [.lst (l.map (fun c => D.str ⟨#[c]⟩))] = some (.str (Str.join Str.empty (l.map fun c => (⟨#[c]⟩ : Str))), s) := by
  have e1 : (items? s (.lst (l.map (fun c => D.str ⟨#[c]⟩)))).bind txts? = some (l.map fun c => (⟨#[c]⟩ : Str)) := by
    show txts? (l.map (fun c => D.str ⟨#[c]⟩)) = _
    have := txts_map (l.map fun c => (⟨#[c]⟩ : Str))
    rw [List.map_map] at this
    exact this
  have e0 : (Str.ofString "") = Str.empty := by decide
  have e0' : Str.empty.length = 0 := by decide
  unfold bJoin
  dsimp only
  rw [e1, e0]
  dsimp only
  rw [if_pos (by rw [join_sum, e0', List.length_map]; omega), beq_iff_eq.mp (PyProof.Rows.join_plain_closes Str.empty _)]
theorem sizes_at {i : Nat} (h : i < 6) : ∃ n : Nat, atI [D.int 1, .int 1, .int 2, .int 3, .int 5, .int 8] (i : Int) = some (.int n) ∧ 1 ≤ n ∧ n ≤ 8 ∧ n ≠ 4 := by
  rcases i with _|_|_|_|_|_|i
  · exact ⟨1, rfl, by decide, by decide, by decide⟩
  · exact ⟨1, rfl, by decide, by decide, by decide⟩
  · exact ⟨2, rfl, by decide, by decide, by decide⟩
  · exact ⟨3, rfl, by decide, by decide, by decide⟩
  · exact ⟨5, rfl, by decide, by decide, by decide⟩
  · exact ⟨8, rfl, by decide, by decide, by decide⟩
  · omega
theorem rng_nat {n : Nat} (h : n < 1000000) : rng? [.int n] = some (upto n, any_) := by
  unfold rng?
  dsimp only
  rw [if_pos (by omega), Int.toNat_natCast]
theorem fIx_lst {s : Sto} {l : List D} {i : Int} : fIx s (.lst l) (.int i) = atI l i := id rfl
theorem wp_sizes {s : Sto} {i : Nat} {Q : D → Prop} (h : i < 6) (k : ∀ n : Nat, 1 ≤ n → n ≤ 8 → n ≠ 4 → Q (.int n)) : wpO (fIx s (.lst [.int 1, .int 1, .int 2, .int 3, .int 5, .int 8]) (.int i)) Q := by
  obtain ⟨n, e, n1, n2, n3⟩ := sizes_at h
  exact wpO_get (fIx_lst.trans e) (k n n1 n2 n3)
theorem wp_name {q : Sp0} {t : Sto} {Q : D → Sto → Prop} {E : XP} (hq : q.Ok) (hb : q.b < 9000000)
    (h : ∀ (z : Str) (q' : Sp0), NameOk z → z.cps.size ≠ 4 → Adv q q' 9 → Q (.str z) (stm q' t)) : wpR (l_name [.ref 1] (stm q t)) Q E := by
  unfold l_name
  refine wp_fn (by simp) ?_
  walk_at "wp"
  refine wpI_intro (le_line (by decide)) ?_
  walk_at "wp"
  refine wp_draw hq (by omega) (by decide) (by decide) fun i q1 h1 a1 => ?_
  refine wp_sizes (by omega) fun n n1 n2 n3 => ?_
  walk_at "wp"
  rw [rng_nat (by omega)]
  walk_at "wp"
  refine wpI_intro (le_line (by simp [upto_len]; omega)) ?_
  have e0 := a1.hi
  refine wp_lcB (fun rest acc s => ∃ (q2 : Sp0) (l : List Nat), s = stm q2 t ∧ Adv q1 q2 l.length ∧ acc = l.map (fun c => D.str ⟨#[c]⟩) ∧ (∀ c ∈ l, 97 ≤ c ∧ c ≤ 122) ∧ l.length + rest.length = n) ?_ ?_ ⟨q1, [], rfl, Adv.refl a1.ok, rfl, by simp, by simp [upto_len]⟩
  · rintro d ds acc s ⟨q2, l, rfl, a2, rfl, hl, hn⟩
    refine ⟨trivial, ?_⟩
    have e2 := a2.hi
    simp at hn
    walk_at "wp"
    refine wp_pick (n := 26) a2.ok (by omega) (by decide) (by decide) (fun q => gLen_letters) fun i q3 h3 a3 => ?_
    refine wpO_get (fIx_letter h3) ?_
    exact ⟨q3, l ++ [97 + i], rfl, a2.trans a3 (by simp), by simp, fun c hc => by
      rcases List.mem_append.mp hc with h | h
      · exact hl c h
      · have e : c = 97 + i := by simpa using h
        omega, by simp; omega⟩
  · rintro acc s ⟨q2, l, rfl, a2, rfl, hl, hn⟩
    refine ⟨trivial, ?_⟩
    have hn' : l.length = n := by simpa using hn
    walk_at "wp"
    refine wpO_get (join_letters (by omega)) ?_
    refine h _ q2 ⟨?_, ?_, ?_⟩ ?_ (a1.trans a2 (by omega))
    · rw [← Array.length_toList, join_one]; omega
    · rw [← Array.length_toList, join_one]; omega
    · rw [join_one]; exact hl
    · rw [← Array.length_toList, join_one]; omega
end MP


set_option Elab.async false
set_option linter.all false
set_option maxRecDepth 100000
set_option maxHeartbeats 4000000
/-! PG2: many names -/
namespace MP
variable [Wd]
open PySem L2
def spares : List Str := [⟨#[97, 122, 97]⟩, ⟨#[98, 122, 98]⟩, ⟨#[99, 122, 99]⟩, ⟨#[100, 122, 100]⟩, ⟨#[101, 122, 101]⟩, ⟨#[102, 122, 102]⟩, ⟨#[103, 122, 103]⟩, ⟨#[104, 122, 104]⟩]
theorem spares_ok : ∀ z ∈ spares, z.cps.size = 3 ∧ ∀ c ∈ z.cps.toList, 97 ≤ c ∧ c ≤ 122 := by decide
theorem signs_ah : signs "abcdefgh" = [.str ⟨#[97]⟩, .str ⟨#[98]⟩, .str ⟨#[99]⟩, .str ⟨#[100]⟩, .str ⟨#[101]⟩, .str ⟨#[102]⟩, .str ⟨#[103]⟩, .str ⟨#[104]⟩] := by
  have e : (Str.ofString "abcdefgh").cps.toList = [97, 98, 99, 100, 101, 102, 103, 104] := by decide
  unfold signs
  rw [e]
  rfl
def zed (d : D) : Option D := match d with
  | .str a => some (.str (a ++ (Str.ofString "z") ++ a))
  | _ => none
theorem zed_all : (signs "abcdefgh").filterMap zed = spares.map D.str := by
  rw [signs_ah]
  have e : (Str.ofString "z") = ⟨#[122]⟩ := by decide
  simp only [List.filterMap_cons, zed, e, List.filterMap_nil, spares, List.map_cons, List.map_nil]
  rfl
theorem fAdd_str {s : Sto} {a b : Str} (h : a.length + b.length ≤ 1000) : fAdd s (.str a) (.str b) = some (.str (a ++ b)) := by
  unfold fAdd
  dsimp only
  rw [if_pos (by omega)]
theorem str_len_app (a b : Str) : (a ++ b).length = a.length + b.length := by
  show (a.cps ++ b.cps).size = _
  rw [Array.size_append]
  rfl
def notIn (zs : List Str) (d : D) : Option D := match d with
  | .str z => if z ∈ zs then none else some (.str z)
  | _ => none
theorem notIn_all (zs : List Str) : ∀ ys : List Str, (ys.map D.str).filterMap (notIn zs) = (ys.filter fun z => !decide (z ∈ zs)).map D.str
  | [] => rfl
  | y :: ys => by
    rw [List.map_cons, List.filterMap_cons, notIn_all zs ys, List.filter_cons]
    by_cases h : y ∈ zs
    · simp [notIn, h]
    · simp [notIn, h]
/-- one of nine is new -/
theorem spare_new {zs : List Str} {z : Str} (h : zs.length < 8) : ∃ w r, ((z :: spares).filter fun z => !decide (z ∈ zs)) = w :: r ∧ w ∉ zs ∧ (w = z ∨ w ∈ spares) := by
  cases e : (z :: spares).filter fun z => !decide (z ∈ zs) with
  | nil =>
    have hs : ∀ a ∈ spares, a ∈ zs := fun a ha => by
      have := List.filter_eq_nil_iff.mp e a (List.mem_cons_of_mem _ ha)
      simpa using this
    have := PySem.length_le_of_nodup_of_subset spares zs (by decide) hs
    have e8 : spares.length = 8 := rfl
    omega
  | cons w r =>
    have hm : w ∈ (z :: spares).filter fun z => !decide (z ∈ zs) := by rw [e]; exact List.mem_cons_self
    obtain ⟨h1, h2⟩ := List.mem_filter.mp hm
    exact ⟨w, r, rfl, by simpa using h2, by simpa using h1⟩
theorem wp_names {q : Sp0} {t : Sto} {m : Nat} {Q : D → Sto → Prop} {E : XP} (hq : q.Ok) (hb : q.b < 8000000) (hm : m ≤ 7)
    (h : ∀ (zs : List Str) (q' : Sp0), zs.Nodup → zs.length = m → (∀ z ∈ zs, NameOk z ∧ z.cps.size ≠ 4) → Adv q q' 63 → Q (.ref (t.length + 2)) (stm q' (t ++ [.lst (zs.map .str)]))) : wpR (l_names [.ref 1, .int m] (stm q t)) Q E := by
  unfold l_names
  refine wp_fn (by simp) ?_
  walk_at "wp"
  refine wpI_intro (le_line (by decide)) ?_
  walk_at "wp"
  rw [rng_nat (by omega)]
  walk_at "wp"
  refine wp_for (fun rest ρ s => ∃ (q' : Sp0) (zs : List Str) (o3 o4 o5 : Option D), ρ = [some (.ref 1), some (.int m), some (.ref (t.length + 2)), o3, o4, o5, none, none] ∧ s = stm q' (t ++ [.lst (zs.map .str)]) ∧ Adv q q' (9 * zs.length) ∧ zs.Nodup ∧ (∀ z ∈ zs, NameOk z ∧ z.cps.size ≠ 4) ∧ zs.length + rest.length = m) ?_ ?_ ⟨q, [], none, none, none, rfl, rfl, (Adv.refl hq).mono (by simp), by simp, by simp, by simp [upto_len]⟩
  · rintro d ds ρ s ⟨q1, zs, o3, o4, o5, rfl, rfl, a1, hnd, hz, hn⟩
    refine ⟨trivial, ?_⟩
    have e1 := a1.hi
    simp at hn
    walk_at "wp"
    refine wp_name a1.ok (by omega) fun z q2 hz1 hz2 a2 => ?_
    walk_at "wp"
    refine wpI_intro (le_line (by simp)) ?_
    walk_at "wp"
    have e0 : seqOf (stm q2 (t ++ [.lst (zs.map .str)])) (.str "abcdefgh") = some (signs "abcdefgh", any_) := rfl
    rw [e0]
    walk_at "wp"
    refine wpI_intro (le_line (by rw [signs_ah]; decide)) ?_
    rw [lcL_pure zed (fun d hd => ?_), zed_all]
    rotate_left
    · rw [signs_ah] at hd
      have : ∃ c : Nat, d = .str ⟨#[c]⟩ := by
        simp only [List.mem_cons, List.mem_nil_iff, or_false] at hd
        rcases hd with rfl | rfl | rfl | rfl | rfl | rfl | rfl | rfl <;> exact ⟨_, rfl⟩
      obtain ⟨c, rfl⟩ := this
      refine ⟨_, rfl, ?_⟩
      have ez : (Str.ofString "z").length = 1 := by decide
      have l1 : (⟨#[c]⟩ : Str).length = 1 := rfl
      refine ⟨rfl, ?_⟩
      have g : ∀ s, fAdd s (.str ⟨#[c]⟩) (.str "z") = some (.str (⟨#[c]⟩ ++ (Str.ofString "z"))) := fun s => fAdd_str (by rw [ez, l1]; decide)
      have g2 : ∀ s, fAdd s (.str (⟨#[c]⟩ ++ (Str.ofString "z"))) (.str ⟨#[c]⟩) = some (.str (⟨#[c]⟩ ++ (Str.ofString "z") ++ ⟨#[c]⟩)) := fun s => fAdd_str (by rw [str_len_app, ez, l1]; decide)
      simp only [mOp, mVar, mC, wipeE, List.set_cons_zero, List.set_cons_succ, List.getElem?_cons_zero, List.getElem?_cons_succ, bnd_ok, g, g2, ofO_some]
    walk_at "wp"
    have g3 : ∀ s, fAdd s (.lst [.str z]) (.lst (spares.map D.str)) = some (.lst ((z :: spares).map D.str)) := fun s => by
      unfold fAdd
      dsimp only [lst?]
      rw [if_pos (le_line (by simp [spares]))]
      rfl
    rw [g3]
    walk_at "wp"
    rw [tyL_stm last_get]
    walk_at "wp"
    have e5 : ∀ s, seqOf s (.lst ((z :: spares).map D.str)) = some ((z :: spares).map D.str, any_) := fun s => rfl
    rw [e5]
    walk_at "wp"
    refine wpI_intro (le_line (by simp [spares])) ?_
    rw [lcL_pure (notIn zs) (fun d hd => ?_), notIn_all]
    rotate_left
    · obtain ⟨y, _, rfl⟩ := List.mem_map.mp hd
      refine ⟨_, rfl, ?_⟩
      have g6 := fNotIn_strs (z := y) (items_stm (q := q2) (t := t ++ [.lst (zs.map .str)]) (k := t.length) last_get) (fun w => by intro h; cases h)
      by_cases hy : y ∈ zs
      · simp only [notIn, hy, if_true, mTst, mOp, mVar, mC, wipeE, List.set_cons_zero, List.set_cons_succ, List.getElem?_cons_zero, List.getElem?_cons_succ, bnd_ok, g6, ofO_some, decide_true, Bool.not_true]
      · simp only [notIn, hy, if_false, mTst, mOp, mVar, mC, wipeE, List.set_cons_zero, List.set_cons_succ, List.getElem?_cons_zero, List.getElem?_cons_succ, bnd_ok, g6, ofO_some, decide_false, Bool.not_false, and_self]
    obtain ⟨w, r, er, hw, hws⟩ := spare_new (z := z) (zs := zs) (by omega)
    rw [er]
    walk_at "wp"
    have g7 : ∀ s, fIx s (.lst ((w :: r).map D.str)) (.int 0) = some (.str w) := fun s => by
      rw [fIx_lst]
      exact atI_nat (n := 0) rfl
    rw [g7]
    walk_at "wp"
    rw [app_stm last_get (by simp; omega)]
    walk_at "wp"
    rw [last_set]
    have hwok : NameOk w ∧ w.cps.size ≠ 4 := by
      rcases hws with rfl | hws
      · exact ⟨hz1, hz2⟩
      · obtain ⟨h1, h2⟩ := spares_ok w hws
        exact ⟨⟨by omega, by omega, h2⟩, by omega⟩
    refine ⟨q2, zs ++ [w], _, _, _, rfl, by rw [List.map_append]; rfl, a1.trans a2 (by simp; omega), ?_, ?_, by simp; omega⟩
    · rw [List.nodup_append]
      exact ⟨hnd, by simp, fun a ha b hb => by
        have : b = w := by simpa using hb
        subst this
        exact fun e => hw (e ▸ ha)⟩
    · intro y hy
      rcases List.mem_append.mp hy with h | h
      · exact hz y h
      · have : y = w := by simpa using h
        subst this
        exact hwok
  · rintro ρ s ⟨q1, zs, o3, o4, o5, rfl, rfl, a1, hnd, hz, hn⟩
    refine ⟨trivial, ?_⟩
    walk_at "wp"
    have hn' : zs.length = m := by simpa using hn
    exact h zs q1 hnd hn' hz (a1.mono (by omega))
end MP


set_option Elab.async false
set_option linter.all false
set_option maxRecDepth 100000
set_option maxHeartbeats 8000000
/-! TB0: things in a drawn order; what is shown -/
namespace MP
variable [Wd]
open PySem L2 PySem.Builtin PySem.Builtin.Str
theorem pop_stm {q : Sp0} {t : Sto} {k i : Nat} {l : List D} (h : t[k]? = some (.lst l)) (hi : i < l.length) (hl : l.length ≤ 1000000) : bPopAt (stm q t) (.ref (k + 2)) [.int i] = some (l[i], stm q (t.set k (.lst (l.eraseIdx i)))) := by
  unfold bPopAt
  dsimp only
  rw [box_stm h, Option.bind_some]
  dsimp only
  rw [if_pos (by simp; omega)]
  have e : seqIndex? (i : Int) l.length = some i := by
    unfold seqIndex?
    rw [if_neg (show ¬ (i : Int) < 0 by omega)]
    simp [hi]
  rw [e]
  dsimp only
  rw [List.getElem?_eq_getElem hi, Option.map_some, stm_upd]
theorem perm_erase : ∀ {l : List D} {i : Nat} (h : i < l.length), (l[i] :: l.eraseIdx i).Perm l
  | [], _, h => absurd h (Nat.not_lt_zero _)
  | a :: l, 0, _ => List.Perm.refl _
  | a :: l, i + 1, h => by
    have ih := perm_erase (l := l) (i := i) (Nat.lt_of_succ_lt_succ h)
    exact (List.Perm.swap _ _ _).trans (List.Perm.cons a ih)
theorem wp_mixed {q : Sp0} {t : Sto} {x : D} {xs : List D} {Q : D → Sto → Prop} {E : XP} (hq : q.Ok) (hb : q.b < 9000000) (hx : seqS (stm q t) x = some xs) (hl : xs.length ≤ 1000)
    (h : ∀ (ys : List D) (q' : Sp0), ys.Perm xs → Adv q q' xs.length → Q (.ref (t.length + 1 + 2)) (stm q' (t ++ [.lst [], .lst ys]))) : wpR (l_mixed [.ref 1, x] (stm q t)) Q E := by
  unfold l_mixed
  refine wp_fn (by simp) ?_
  walk_at "wp"
  have e1 : gListB (stm q t) [x] = some (.ref (t.length + 2), stm q (t ++ [.lst xs])) := by
    unfold gListB
    dsimp only
    rw [hx, Option.map_some, stm_len, stm_app]
  rw [e1]
  walk_at "wp"
  rw [gLen_stm last_get]
  walk_at "wp"
  rw [rng_nat (by omega)]
  walk_at "wp"
  refine wpI_intro (le_line (by rw [upto_len]; omega)) ?_
  refine wp_lcB (fun rest acc s => ∃ (q' : Sp0) (l : List D), s = stm q' (t ++ [.lst l]) ∧ Adv q q' acc.length ∧ (acc ++ l).Perm xs ∧ l.length = rest.length) ?_ ?_ ⟨q, xs, rfl, (Adv.refl hq).mono (by simp), by simp, by simp [upto_len]⟩
  · rintro d ds acc s ⟨q1, l, rfl, a1, pm, hn⟩
    refine ⟨trivial, ?_⟩
    have e1 := a1.hi
    have hlen := pm.length_eq
    simp at hn hlen
    walk_at "wp"
    rw [tyL_stm last_get]
    walk_at "wp"
    rw [gLen_stm last_get]
    walk_at "wp"
    refine wp_draw a1.ok (by omega) (by omega) (by omega) fun i q2 h2 a2 => ?_
    have hi : i < l.length := by omega
    walk_at "wp"
    rw [pop_stm last_get hi (by omega), last_set]
    walk_at "wp"
    refine ⟨q2, _, rfl, a1.trans a2 (by simp), ?_, ?_⟩
    · refine List.Perm.trans ?_ pm
      rw [List.append_assoc]
      exact List.Perm.append_left acc (perm_erase hi)
    · rw [List.length_eraseIdx_of_lt hi]; omega
  · rintro acc s ⟨q1, l, rfl, a1, pm, hn⟩
    refine ⟨trivial, ?_⟩
    have hl0 : l = [] := List.eq_nil_of_length_eq_zero (by simpa using hn)
    subst hl0
    rw [List.append_nil] at pm
    have := pm.length_eq
    have key := h acc q1 pm (a1.mono (by omega))
    rw [stm_len, stm_app, List.append_assoc, List.length_append]
    exact key
/-- what is shown of it -/
structure Shows (p : PyData) (m : Nat) : Prop where
  ok : p.showable = true
  len : p.shown.length ≤ m
theorem text_from_le : ∀ (ts : List Str) (k : Nat) (acc : Str), (textFrom k acc ts).length ≤ acc.length + (ts.map fun t => t.length + 2).sum
  | [], _, acc => by simp [textFrom]
  | t :: ts, k, acc => by
    have ih := text_from_le ts (k + 1) (acc ++ (if k > 0 then ", " else "" : String) ++ t)
    have e : (acc ++ (if k > 0 then ", " else "" : String) ++ t).length ≤ acc.length + 2 + t.length := by
      rw [str_len_app, str_len_app]
      have : (Str.ofString (if k > 0 then ", " else "")).length ≤ 2 := by split <;> decide
      omega
    rw [textFrom, List.map_cons, List.sum_cons]
    omega
theorem list_text_le (ts : List Str) : (listText ts).length ≤ 4 + (ts.map fun t => t.length + 2).sum := by
  unfold listText
  rw [str_len_app]
  have h := text_from_le ts 0 "["
  have e1 : (Str.ofString "[").length = 1 := by decide
  have e2 : (Str.ofString "]").length = 1 := by decide
  omega
theorem join_le : ∀ ts : List Str, (Str.join ", " ts).length ≤ (ts.map fun t => t.length + 2).sum
  | [] => by decide
  | [x] => by simp [Str.join]
  | x :: y :: r => by
    have ih := join_le (y :: r)
    show (x ++ ", " ++ Str.join ", " (y :: r)).length ≤ _
    rw [str_len_app, str_len_app, List.map_cons, List.sum_cons]
    have e2 : (Str.ofString ", ").length = 2 := by decide
    omega
theorem tuple_text_le (ts : List Str) : (tupleText ts).length ≤ 4 + (ts.map fun t => t.length + 2).sum := by
  unfold tupleText
  rw [str_len_app, str_len_app]
  have h := join_le ts
  have e1 : (Str.ofString "(").length = 1 := by decide
  have e2 : (Str.ofString (if ts.length == 1 then ",)" else ")")).length ≤ 2 := by split <;> decide
  omega
inductive ShowsAll : List PyData → Nat → Prop where
  | nil : ShowsAll [] 0
  | cons {p : PyData} {ps : List PyData} {m k : Nat} (h : Shows p m) (r : ShowsAll ps k) : ShowsAll (p :: ps) (m + 2 + k)
theorem ShowsAll.ok {ps : List PyData} {m : Nat} (h : ShowsAll ps m) : PyData.showableAll ps = true ∧ ((PyData.shownAll ps).map fun t => t.length + 2).sum ≤ m := by
  induction h with
  | nil => exact ⟨rfl, by simp [PyData.shownAll]⟩
  | cons h r ih =>
    refine ⟨by simp [PyData.showableAll, h.ok, ih.1], ?_⟩
    rw [PyData.shownAll, List.map_cons, List.sum_cons]
    have := h.len
    have := ih.2
    omega
theorem ShowsAll.lst {ps : List PyData} {m : Nat} (h : ShowsAll ps m) : Shows (.list ps) (4 + m) := by
  obtain ⟨h1, h2⟩ := h.ok
  refine ⟨by simp [PyData.showable, h1], ?_⟩
  rw [PyData.shown]
  have := list_text_le (PyData.shownAll ps)
  omega
theorem ShowsAll.tup {ps : List PyData} {m : Nat} (h : ShowsAll ps m) : Shows (.tuple ps) (4 + m) := by
  obtain ⟨h1, h2⟩ := h.ok
  refine ⟨by simp [PyData.showable, h1], ?_⟩
  rw [PyData.shown]
  have := tuple_text_le (PyData.shownAll ps)
  omega
theorem log_small {i : Int} (h : i.natAbs < 10 ^ 30) : i.natAbs.log2 < 1920 := by
  by_cases h0 : i.natAbs = 0
  · rw [h0]; decide
  · have : i.natAbs < 2 ^ 1920 := Nat.lt_of_lt_of_le h (Nat.le_trans (show 10 ^ 30 ≤ 2 ^ 200 by decide) (Nat.pow_le_pow_right (by decide) (by decide)))
    exact (Nat.log2_lt h0).mpr this
theorem shows_int {i : Int} (h : i.natAbs < 10 ^ 30) : Shows (.int i) 1921 := ⟨by simp only [PyData.showable]; exact decide_eq_true (log_small h), by
  rw [PyData.shown]
  exact PyProof.Rows.int_text_len_1921 (log_small h)⟩
theorem shows_bl {b : Bool} : Shows (.bool b) 5 := ⟨rfl, by rw [PyData.shown]; cases b <;> decide⟩
theorem print_letters : ∀ k < 26, Unicode.isPrintable (97 + k) = true := by decide
theorem reprChar_letter {q c : Nat} (hq : q < 97) (h : 97 ≤ c ∧ c ≤ 122) : (reprChar q c).length = 1 := by
  have e : Unicode.isPrintable c = true := by
    have := print_letters (c - 97) (by omega)
    rw [show 97 + (c - 97) = c by omega] at this
    exact this
  unfold reprChar
  dsimp only
  rw [if_neg (by simp; omega), if_neg (by simp; omega), if_neg (by simp; omega), if_neg (by simp; omega), if_pos e]
  rfl
theorem fold_letters {q : Nat} (hq : q < 97) : ∀ (l : List Nat) (n : Nat), (∀ c ∈ l, 97 ≤ c ∧ c ≤ 122) → l.foldl (fun n c => n + (reprChar q c).length) n = n + l.length
  | [], n, _ => rfl
  | c :: l, n, h => by
    rw [List.foldl_cons, reprChar_letter hq (h c List.mem_cons_self), fold_letters hq l _ fun d hd => h d (List.mem_cons_of_mem _ hd), List.length_cons]
    omega
theorem shows_name {z : Str} (h : NameOk z) : Shows (.str z) 10 := ⟨rfl, by
  rw [PyData.shown, ← reprLen_eq, ← Array.foldl_toList]
  have hq : reprQuote z < 97 := by unfold reprQuote; split <;> decide
  rw [fold_letters hq _ _ h.all]
  have := h.hi
  simp
  omega⟩
/-- as the model reads and shows it -/
structure Rs (s : Sto) (n : Nat) (d : D) (p : PyData) (m : Nat) : Prop where
  f : ∀ N, n < N → pyF N s d = some p
  sh : Shows p m
theorem rs_name {z : Str} (h : NameOk z) : Rs s n (.str z) (.str z) 10 := ⟨fun N hN => by obtain ⟨M, rfl⟩ : ∃ M, N = M + 1 := ⟨N - 1, by omega⟩; rfl, shows_name h⟩
theorem rs_all : ∀ {ds : List D}, (∀ d ∈ ds, ∃ p, Rs s n d p m) → ∃ ps, (∀ N, n < N → ds.mapM (pyF N s) = some ps) ∧ ShowsAll ps (ds.length * (m + 2))
  | [], _ => ⟨[], fun _ _ => rfl, by simpa using ShowsAll.nil⟩
  | d :: ds, h => by
    obtain ⟨p, hp⟩ := h d List.mem_cons_self
    obtain ⟨ps, h1, h2⟩ := rs_all fun x hx => h x (List.mem_cons_of_mem _ hx)
    refine ⟨p :: ps, fun N hN => by rw [List.mapM_cons, hp.f N hN, h1 N hN]; rfl, ?_⟩
    rw [List.length_cons, Nat.succ_mul, Nat.add_comm (ds.length * (m + 2))]
    exact .cons hp.sh h2
theorem rs_lst {ds : List D} (h : ∀ d ∈ ds, ∃ p, Rs s n d p m) : ∃ ps, Rs s (n + 1) (.lst ds) (.list ps) (4 + ds.length * (m + 2)) := by
  obtain ⟨ps, h1, h2⟩ := rs_all h
  refine ⟨ps, fun N hN => ?_, h2.lst⟩
  obtain ⟨M, rfl⟩ : ∃ M, N = M + 1 := ⟨N - 1, by omega⟩
  show (ds.mapM (pyF M s)).map PyData.list = _
  rw [h1 M (by omega)]; rfl
theorem rs_tup {ds : List D} (h : ∀ d ∈ ds, ∃ p, Rs s n d p m) : ∃ ps, Rs s (n + 1) (.tup ds) (.tuple ps) (4 + ds.length * (m + 2)) := by
  obtain ⟨ps, h1, h2⟩ := rs_all h
  refine ⟨ps, fun N hN => ?_, h2.tup⟩
  obtain ⟨M, rfl⟩ : ∃ M, N = M + 1 := ⟨N - 1, by omega⟩
  show (ds.mapM (pyF M s)).map PyData.tuple = _
  rw [h1 M (by omega)]; rfl
theorem Rs.up {d : D} {p : PyData} {m' : Nat} (h : Rs s n d p m) (hm : m ≤ m') : Rs s n d p m' := ⟨h.f, h.sh.ok, Nat.le_trans h.sh.len hm⟩
theorem Rs.repr_l {ds : List D} {ps : List PyData} (h : Rs s n (.lst ds) (.list ps) m) (hn : n < 60) (hm : m ≤ 16777216) : ∃ z, gRepr s [.lst ds] = some (.str z) := by
  refine ⟨(PyData.list ps).shown, ?_⟩
  unfold gRepr
  dsimp only
  rw [h.f 60 hn]
  dsimp only
  rw [h.sh.ok, decide_eq_true (Nat.le_trans h.sh.len hm)]
  rfl
end MP



set_option Elab.async false
set_option linter.all false
set_option maxRecDepth 100000
set_option maxHeartbeats 8000000
/-! TBM: defs, items, slices -/
namespace MP
variable [Wd]
open PySem L2 PySem.Builtin PySem.Builtin.Str
theorem wp_fnE {n : Nat} {body : MS} {ds : List D} {s : Sto} {Q : D → Sto → Prop} {E : XP} (hl : ds.length ≤ n) : wpR (fnM n body ds s) Q E = wpS (body (pad n ds) s) (fun _ s => Q .non s) Q (fun _ _ => False) (fun _ _ => False) (fun x _ s => E x s) := by
  unfold fnM
  rw [if_pos hl, pad_eq n ds hl]
  cases hb : body (pad n ds) s with
  | none => simp only [wpR_none, wpS_none]
  | some f => cases f <;> simp only [wpR_none, wpR_ok, wpR_ex, wpS_nx, wpS_rt, wpS_bk, wpS_ct, wpS_ex]
theorem eq_wp {x : RO D} {a : D} {s : Sto} (h : wpR x (fun d s' => d = a ∧ s' = s) (fun _ _ => False)) : x = some (.ok a s) := by
  obtain ⟨d, s', e, rfl, rfl⟩ := wpR_get h
  exact e
section
variable {s : Sto} {a0 a1 a2 a3 : D} {l : List D} {x : List D}
theorem ix_0 : fIx s (.tup (a0 :: l)) (.int 0) = some a0 := atI_nat (n := 0) rfl
theorem ix_1 : fIx s (.tup (a0 :: a1 :: l)) (.int 1) = some a1 := atI_nat (n := 1) rfl
theorem il_0 : fIx s (.lst (a0 :: l)) (.int 0) = some a0 := atI_nat (n := 0) rfl
theorem il_1 : fIx s (.lst (a0 :: a1 :: l)) (.int 1) = some a1 := atI_nat (n := 1) rfl
theorem gList_tup : gList s [.tup l] = some (.lst l) := id rfl
theorem gList_lst : gList s [.lst l] = some (.lst l) := id rfl
theorem gTuple_lst : gTuple s [.lst l] = some (.tup l) := id rfl
theorem seqOf_tup : seqOf s (.tup l) = some (l, any_) := id rfl
theorem seqOf_lst : seqOf s (.lst l) = some (l, any_) := id rfl
theorem gLen_lst : gLen s [.lst l] = some (.int l.length) := id rfl
theorem gLen_tup : gLen s [.tup l] = some (.int l.length) := id rfl
theorem cutD_drop {k : Nat} : cutD l (some (k : Int)) none = l.drop k := by
  unfold cutD
  rw [HT.sIx_nat, HT.sIx_none]
  by_cases h : k ≤ l.length
  · rw [Nat.min_eq_left h, List.take_of_length_le (by simp)]
  · rw [Nat.min_eq_right (by omega), List.drop_eq_nil_of_le (Nat.le_refl _), List.drop_eq_nil_of_le (by omega)]
    simp
theorem cutD_take {k : Nat} : cutD l none (some (k : Int)) = l.take k := by
  unfold cutD
  rw [HT.sIx_nat, HT.sIx_none]
  simp only [List.drop_zero, Nat.sub_zero]
  by_cases h : k ≤ l.length
  · rw [Nat.min_eq_left h]
  · rw [Nat.min_eq_right (by omega), List.take_of_length_le (Nat.le_refl _), List.take_of_length_le (by omega)]
theorem items_lst : items? s (.lst x) = some x := id rfl
theorem fAdd_lst {a b : List D} : fAdd s (.lst a) (.lst b) = if a.length + b.length ≤ 16777216 then some (.lst (a ++ b)) else none := id rfl
theorem fSl_lst {lo hi : Option Int} : fSl s (.lst l) lo hi = some (.lst (cutD l lo hi)) := id rfl
theorem items_tup : items? s (.tup x) = some x := id rfl
end
end MP


set_option hygiene false
local macro_rules | `(tactic| walk_at "wu") => `(tactic| try simp only [↓wp_mSeq, ↓wp_mNext, ↓wp_mBrk, ↓wp_mCnt, ↓wp_mExpr, ↓wp_mRet, ↓wp_mRetN, ↓wp_mIf, ↓wp_mSet, ↓wp_mPar, ↓wp_mPar3, ↓wp_mAsg, ↓wp_mFor, ↓wp_mDPut, ↓wp_mFldSet, ↓wp_mVar, ↓wp_mC, ↓wp_mOp, ↓wp_mUn, ↓wp_mNil, ↓wp_mCons, ↓wp_mStar, ↓wp_mTup, ↓wp_mLst, ↓wp_mLstB, ↓wp_mIfE, ↓wp_mTst, ↓wp_mNot, ↓wp_mAnd, ↓wp_mOr, ↓wp_mAndV, ↓wp_mOrV, ↓wp_mNotV, ↓wp_mChain, ↓wp_mCall, ↓wp_mCallB, ↓wpO_pu, ↓wp_mBm, ↓wp_mBm0, ↓wp_moN, ↓wp_moS, ↓wp_mSl, ↓wp_mIsi, ↓wp_mTab, ↓wp_mTabIn, ↓wp_mTabNotIn, ↓wp_mDGet, ↓wp_mDGet2, ↓wp_mDNew, ↓wp_mSortSet, ↓wp_mSortSetB, ↓wp_mLenSet, ↓wp_mFrz, ↓wp_mFld, ↓wp_mMeth, ↓wp_mMake, ↓wp_mLenO, ↓wp_mEqO, ↓wp_mNeO, ↓wp_mLc, ↓wp_mLcB, ↓wp_miSeq, ↓wp_miRng, ↓wp_miZip, ↓wp_miEnum, ↓wp_gmName, ↓wp_gmNil, ↓wp_gmCons, ↓wp_gmTup, ↓wp_gmSub, ↓wp_mYes, ↓wp_mItO, ↓wp_mProp, ↓wp_mLockE, ↓wp_miKeys, ↓wp_miItems, ↓wp_mDc, ↓wp_gmDSub, ↓wp_gmFld, ↓wp_mItSet, ↓wp_mItAug, ↓wpR_ok, wpO_some, wpB_true, wpB_false, wpB_not, wpI_true, asB_bl, asI_int, asT_tup, asS_str, two_two, three_three, isNon_non, cI_int, pad, wipeE, List.getElem?_cons_zero, List.getElem?_cons_succ, List.set_cons_zero, List.set_cons_succ, fAdd_int, fSub_int, fLt_int, fLe_int, fGt_int, fGe_int, fEq_int, fNe_int, fNeg_int, stm_ix0, stm_ix1, stm_ix2, stm_ix3, stm_set1, stm_set2, stm_set3, stm_ne, stm_tyL0, gInt_int, tyS_str, stm_len, stm_app, ↓wp_fnE, List.length_cons, List.length_nil, Nat.reduceAdd, Nat.reduceLeDiff, ix_0, ix_1, il_0, il_1, gList_lst, gList_tup, gTuple_lst, seqOf_tup, seqOf_lst, items_tup, items_lst, gLen_lst, gLen_tup, fSl_lst, ↓wp_mNIn, ↓wp_mNNotIn, ↓wp_mNDc, ↓wp_mNGet])
local macro_rules | `(tactic| simp_all! [$as,*]) => `(tactic| try simp only [↓wp_mSeq, ↓wp_mNext, ↓wp_mBrk, ↓wp_mCnt, ↓wp_mExpr, ↓wp_mRet, ↓wp_mRetN, ↓wp_mIf, ↓wp_mSet, ↓wp_mPar, ↓wp_mPar3, ↓wp_mAsg, ↓wp_mFor, ↓wp_mDPut, ↓wp_mFldSet, ↓wp_mVar, ↓wp_mC, ↓wp_mOp, ↓wp_mUn, ↓wp_mNil, ↓wp_mCons, ↓wp_mStar, ↓wp_mTup, ↓wp_mLst, ↓wp_mLstB, ↓wp_mIfE, ↓wp_mTst, ↓wp_mNot, ↓wp_mAnd, ↓wp_mOr, ↓wp_mAndV, ↓wp_mOrV, ↓wp_mNotV, ↓wp_mChain, ↓wp_mCall, ↓wp_mCallB, ↓wpO_pu, ↓wp_mBm, ↓wp_mBm0, ↓wp_moN, ↓wp_moS, ↓wp_mSl, ↓wp_mIsi, ↓wp_mTab, ↓wp_mTabIn, ↓wp_mTabNotIn, ↓wp_mDGet, ↓wp_mDGet2, ↓wp_mDNew, ↓wp_mSortSet, ↓wp_mSortSetB, ↓wp_mLenSet, ↓wp_mFrz, ↓wp_mFld, ↓wp_mMeth, ↓wp_mMake, ↓wp_mLenO, ↓wp_mEqO, ↓wp_mNeO, ↓wp_mLc, ↓wp_mLcB, ↓wp_miSeq, ↓wp_miRng, ↓wp_miZip, ↓wp_miEnum, ↓wp_gmName, ↓wp_gmNil, ↓wp_gmCons, ↓wp_gmTup, ↓wp_gmSub, ↓wp_mYes, ↓wp_mItO, ↓wp_mProp, ↓wp_mLockE, ↓wp_miKeys, ↓wp_miItems, ↓wp_mDc, ↓wp_gmDSub, ↓wp_gmFld, ↓wp_mItSet, ↓wp_mItAug, ↓wpR_ok, wpO_some, wpB_true, wpB_false, wpB_not, wpI_true, asB_bl, asI_int, asT_tup, asS_str, two_two, three_three, isNon_non, cI_int, pad, wipeE, List.getElem?_cons_zero, List.getElem?_cons_succ, List.set_cons_zero, List.set_cons_succ, fAdd_int, fSub_int, fLt_int, fLe_int, fGt_int, fGe_int, fEq_int, fNe_int, fNeg_int, stm_ix0, stm_ix1, stm_ix2, stm_ix3, stm_set1, stm_set2, stm_set3, stm_ne, stm_tyL0, gInt_int, tyS_str, stm_len, stm_app, ↓wp_fnE, List.length_cons, List.length_nil, Nat.reduceAdd, Nat.reduceLeDiff, ix_0, ix_1, il_0, il_1, gList_lst, gList_tup, gTuple_lst, seqOf_tup, seqOf_lst, items_tup, items_lst, gLen_lst, gLen_tup, fSl_lst, ↓wp_mNIn, ↓wp_mNNotIn, ↓wp_mNDc, ↓wp_mNGet, $as,*])
set_option hygiene true
set_option Elab.async false
set_option linter.all false
set_option maxRecDepth 100000
set_option maxHeartbeats 8000000
/-! TB1: cells and ways, layers, squares -/
namespace MP
variable [Wd]
open PySem L2
theorem gSortS_str {s : Sto} {zs : List Str} (hl : zs.length < 64) : gSortS s [.lst (zs.map .str)] = some (.lst ((srt zs).map .str)) := by
  unfold gSortS
  dsimp only
  rw [show lst? s (.lst (zs.map .str)) = some (zs.map .str) from rfl, Option.bind_some, txts_map]
  dsimp only
  rw [if_pos hl]
theorem srt_srt {l : List Str} : srt (srt l) = srt l := srt_congr (srt_perm l)
structure Grid (cs ws : List Str) : Prop where
  cn : cs.Nodup
  wn : ws.Nodup
  cl : cs.length ≤ 3
  wl : ws.length ≤ 4
  co : ∀ z ∈ cs, NameOk z
  wo : ∀ z ∈ ws, NameOk z
  cs1 : srt cs = cs
  ws1 : srt ws = ws
  cs_ : srt cs = cs
  ws_ : srt ws = ws
theorem name_back : NameOk "back" := ⟨by decide, by decide, by decide⟩
theorem app_back {l : List Str} {s : Sto} : fAdd s (.lst (l.map .str)) (.lst [.str "back"]) = if l.length + 1 ≤ 16777216 then some (.lst ((l ++ [Str.ofString "back"]).map .str)) else none := by
  rw [fAdd_lst, List.length_map, List.map_append]
  rfl
theorem notin_strs {s : Sto} {z : Str} {l : List Str} : fNotIn s (.str z) (.lst (l.map .str)) = some (.bl !decide (z ∈ l)) := fNotIn_strs (zs := l) rfl fun w e => by cases e
theorem nodup_snoc {l : List Str} {z : Str} (h : l.Nodup) (hz : z ∉ l) : (l ++ [z]).Nodup := by
  rw [List.nodup_append]
  exact ⟨h, by simp, fun a ha b hb => by rw [List.mem_singleton] at hb; subst hb; exact fun e => hz (e ▸ ha)⟩
theorem grid_of {cs ws : List Str} (h1 : cs.Nodup) (h2 : ws.Nodup) (h3 : cs.length ≤ 3) (h4 : ws.length ≤ 4) (h5 : ∀ z ∈ cs, NameOk z) (h6 : ∀ z ∈ ws, NameOk z) : Grid (srt cs) (srt ws) :=
  ⟨(srt_perm _).nodup_iff.mpr h1, (srt_perm _).nodup_iff.mpr h2, by rw [(srt_perm _).length_eq]; exact h3, by rw [(srt_perm _).length_eq]; exact h4, fun z hz => h5 z ((srt_perm _).mem_iff.mp hz), fun z hz => h6 z ((srt_perm _).mem_iff.mp hz), srt_srt, srt_srt, srt_srt, srt_srt⟩
theorem wp_grid {q : Sp0} {t : Sto} {Q : D → Sto → Prop} {E : XP} (hq : q.Ok) (hb : q.b < 7000000)
    (h : ∀ (cs ws : List Str) (x : Ob) (q' : Sp0), Grid cs ws → Adv q q' 70 → Q (.tup [.lst (cs.map .str), .lst (ws.map .str)]) (stm q' (t ++ [x]))) : wpR (l_grid [.ref 1] (stm q t)) Q E := by
  unfold l_grid
  refine wp_fn (by simp) ?_
  walk_at "wu"
  refine wp_names hq (by omega) (m := 7) (by decide) fun zs q1 hnd hlen hok a1 => ?_
  have e1 := a1.hi
  walk_at "wu"
  have hst : ∀ q, (stm q (t ++ [.lst (zs.map .str)]))[t.length + 2]? = some (.lst (zs.map .str)) := fun q => by rw [stm_get]; exact last_get
  have hs1 : ∀ q lo hi, fSl (stm q (t ++ [.lst (zs.map .str)])) (.ref (t.length + 2)) lo hi = some (.lst (cutD (zs.map .str) lo hi)) := fun q lo hi => by
    show (lst? _ _).map _ = _
    rw [lst_stm last_get]
    rfl
  refine wp_draw a1.ok (by omega) (by decide) (by decide) fun i q2 hi a2 => ?_
  have e2 := a2.hi
  simp_all! [hs1]
  refine wp_draw a2.ok (by omega) (by decide) (by decide) fun j q3 hj a3 => ?_
  have e3 := a3.hi
  simp_all! [hs1]
  have c1 : cutD (zs.map D.str) none (some (i : Int)) = (zs.take i).map .str := by rw [cutD_take, List.map_take]
  have c2 : cutD (zs.map D.str) (some 4) (some (4 + (j : Int))) = ((zs.drop 4).take j).map .str := by
    have := cutD_drop (l := zs.map D.str) (k := 4)
    unfold cutD at this ⊢
    rw [show ((4 : Int)) = ((4 : Nat) : Int) from rfl, show (((4 : Nat) : Int) + (j : Int)) = ((4 + j : Nat) : Int) by omega, HT.sIx_nat, HT.sIx_nat, List.length_map, hlen]
    rw [show min 4 7 = 4 from rfl, List.map_take, List.map_drop]
    congr 1
    omega
  rw [c1, c2]
  clear c1 c2
  have s1 : (zs.take i).Sublist zs := List.take_sublist _ _
  have s2 : ((zs.drop 4).take j).Sublist zs := (List.take_sublist _ _).trans (List.drop_sublist _ _)
  have l1 : (zs.take i).length ≤ 3 := by rw [List.length_take]; omega
  have l2 : ((zs.drop 4).take j).length ≤ 3 := by rw [List.length_take]; omega
  have n1 := s1.nodup hnd
  have n2 := s2.nodup hnd
  have o1 : ∀ z ∈ zs.take i, NameOk z ∧ z.cps.size ≠ 4 := fun z hz => hok z (s1.subset hz)
  have o2 : ∀ z ∈ (zs.drop 4).take j, NameOk z ∧ z.cps.size ≠ 4 := fun z hz => hok z (s2.subset hz)
  generalize zs.take i = cs at l1 n1 o1 ⊢
  generalize (zs.drop 4).take j = ws at l2 n2 o2 ⊢
  have nbk : ∀ l : List Str, (∀ z ∈ l, NameOk z ∧ z.cps.size ≠ 4) → (decide (Str.ofString "back" ∈ l)) = false := fun l hl => decide_eq_false fun hm => (hl _ hm).2 (by decide)
  have nb2 : ∀ l : List Str, (∀ z ∈ l, NameOk z ∧ z.cps.size ≠ 4) → Str.ofString "back" ∉ l := fun l hl hm => (hl _ hm).2 (by decide)
  have bk : ∀ l : List Str, l.length ≤ 3 → ∀ s : Sto, fAdd s (.lst (l.map .str)) (.lst [.str "back"]) = some (.lst ((l ++ [Str.ofString "back"]).map .str)) := fun l hl s => by rw [app_back, if_pos (by omega)]
  have okb : ∀ l : List Str, (∀ z ∈ l, NameOk z ∧ z.cps.size ≠ 4) → ∀ z ∈ l ++ [Str.ofString "back"], NameOk z := fun l hl z hz => by
    rcases List.mem_append.mp hz with hz | hz
    · exact (hl z hz).1
    · rw [List.mem_singleton.mp hz]; exact name_back
  have two_ : ∀ s : Sto, fSl s (.lst (cs.map D.str)) none (some 2) = some (.lst ((cs.take 2).map .str)) := fun s => by
    rw [fSl_lst, show (2 : Int) = ((2 : Nat) : Int) from rfl, cutD_take, List.map_take]
  have o3 : ∀ z ∈ cs.take 2, NameOk z ∧ z.cps.size ≠ 4 := fun z hz => o1 z (List.mem_of_mem_take hz)
  have l3 : (cs.take 2).length ≤ 2 := by rw [List.length_take]; omega
  have n3 : (cs.take 2).Nodup := (List.take_sublist _ _).nodup n1
  -- the second half, with the ways as they are
  have half : ∀ (vs : List Str) (q : Sp0), vs.Nodup → vs.length ≤ 4 → (∀ z ∈ vs, NameOk z) → Adv q1 q 3 → ∀ N Rt B C, (∀ (cs' : List Str) (q' : Sp0), Grid (srt cs') (srt vs) → Adv q q' 1 → Rt (.tup [.lst ((srt cs').map .str), .lst ((srt vs).map .str)]) (stm q' (t ++ [.lst (zs.map .str)]))) →
      wpS ((mSeq (mIf (mAnd (mTst (mOp fEq (mCall l_draw (mCons (mVar 0) (mCons (mC (.int 4)) (mNil)))) (mC (.int 0)))) (mTst (mOp fNotIn (mC (.str "back")) (mVar 2)))) (mSet 2 (mOp fAdd (mSl (mVar 2) (moN) (moS (mC (.int 2)))) (mLst (mCons (mC (.str "back")) (mNil))))) (mNext))
      (mRet (mTup (mCons (mCallB (pu gSortS) (mCons (mVar 2) (mNil))) (mCons (mCallB (pu gSortS) (mCons (mVar 3) (mNil))) (mNil)))))) [some (.ref 1), some (.ref (t.length + 2)), some (.lst (cs.map .str)), some (.lst (vs.map .str))] (stm q (t ++ [.lst (zs.map .str)]))) N Rt B C (fun e _ s => E e s) := fun vs q v1 v2 v3 a N Rt B C hR => by
    have e4 := a.hi
    walk_at "wu"
    refine wp_draw a.ok (by omega) (by decide) (by decide) fun k q5 hk a5 => ?_
    simp_all! [notin_strs, nbk cs o1]
    refine wpB_dec (fun _ => ?_) (fun _ => ?_)
    · simp_all! [notin_strs, nbk cs o1, Bool.not_false, two_]
      simp_all! [bk _ (Nat.le_trans l3 (by decide)), gSortS_str (show (cs.take 2 ++ [Str.ofString "back"]).length < 64 by rw [List.length_append, List.length_singleton]; omega), gSortS_str (show vs.length < 64 by omega)]
      exact hR _ q5 (grid_of (nodup_snoc n3 (nb2 _ o3)) v1 (by rw [List.length_append, List.length_singleton]; omega) v2 (okb _ o3) v3) a5
    · simp_all! [gSortS_str (show cs.length < 64 by omega), gSortS_str (show vs.length < 64 by omega)]
      exact hR _ q5 (grid_of n1 v1 l1 v2 (fun z hz => (o1 z hz).1) v3) a5
  refine wp_draw a3.ok (by omega) (by decide) (by decide) fun k q4 hk a4 => ?_
  have a14 : Adv q1 q4 3 := ((a2.trans a3 (Int.le_refl _)).trans a4 (by decide))
  have e4 := a14.hi
  simp_all! [notin_strs, nbk ws o2]
  refine wpB_dec (fun _ => ?_) (fun _ => ?_)
  · simp_all! [notin_strs, nbk ws o2, Bool.not_false]
    have z := half (ws ++ [Str.ofString "back"]) q4 (nodup_snoc n2 (nb2 _ o2)) (by rw [List.length_append, List.length_singleton]; omega) (okb _ o2) a14 (fun x s => Q D.non s) Q (fun x x_1 => False) (fun x x_1 => False) fun cs' q' g a => h _ _ _ _ g ((a1.trans a14 (Int.le_refl _)).trans a (by decide))
    revert z
    simp_all! [bk _ l2]
    exact id
  · have z := half ws q4 n2 (by omega) (fun z hz => (o2 z hz).1) a14 (fun x s => Q D.non s) Q (fun x x_1 => False) (fun x x_1 => False) fun cs' q' g a => h _ _ _ _ g ((a1.trans a14 (Int.le_refl _)).trans a (by decide))
    revert z
    simp_all! [bk _ l2]
    exact id
end MP


set_option Elab.async false
set_option linter.all false
set_option maxRecDepth 100000
set_option maxHeartbeats 8000000
/-! TB2: names, layers as data -/
namespace MP
variable [Wd]
open PySem L2
theorem bls_map {α : Type} (f : α → Bool) : ∀ l : List α, bls (l.map fun a => D.bl (f a)) = some (l.map f)
  | [] => rfl
  | a :: l => by rw [List.map_cons, bls, bls_map f l]; rfl
theorem gAll_map {α : Type} {s : Sto} (f : α → Bool) (l : List α) : gAll s [.lst (l.map fun a => D.bl (f a))] = some (.bl (l.all f)) := by
  show ((lst? s (.lst (l.map fun a => D.bl (f a)))).bind bls).map (fun bs => D.bl (bs.all id)) = _
  rw [show lst? s (.lst (l.map fun a => D.bl (f a))) = some (l.map fun a => D.bl (f a)) from rfl, Option.bind_some, bls_map, Option.map_some]
  simp [Function.comp_def]
theorem gAny_map {α : Type} {s : Sto} (f : α → Bool) (l : List α) : gAny s [.lst (l.map fun a => D.bl (f a))] = some (.bl (l.any f)) := by
  show ((lst? s (.lst (l.map fun a => D.bl (f a)))).bind bls).map (fun bs => D.bl (bs.any id)) = _
  rw [show lst? s (.lst (l.map fun a => D.bl (f a))) = some (l.map fun a => D.bl (f a)) from rfl, Option.bind_some, bls_map, Option.map_some]
  simp [Function.comp_def]
def nameB (z : Str) : Bool := decide (1 ≤ z.length) && (decide (z.length ≤ 8) && z.cps.toList.all fun c => decide (c ∈ letters.cps.toList))
theorem NameOk.b {z : Str} (h : NameOk z) : nameB z = true := by
  unfold nameB
  rw [decide_eq_true (show 1 ≤ z.length from h.lo), decide_eq_true (show z.length ≤ 8 from h.hi), Bool.true_and, Bool.true_and, List.all_eq_true]
  intro c hc
  have hh := h.all c hc
  have e := letters_at (i := c - 97) (by omega)
  rw [show 97 + (c - 97) = c by omega] at e
  exact decide_eq_true (List.mem_of_getElem? e)
theorem is_name_str {s : Sto} {z : Str} (hz : z.length ≤ 1000) : p_is_name [.str z] s = some (.ok (.bl (nameB z)) s) := by
  refine eq_wp ?_
  unfold p_is_name nameB
  refine wp_fn (by simp) ?_
  have e : (kdD s (.str z)).bind (fB ["str"]) = some true := rfl
  have el : gLen s [.str z] = some (.int z.length) := by
    unfold gLen
    dsimp only
    rw [if_pos (by omega)]
  simp_all! [e, el]
  by_cases h1 : 1 ≤ z.length
  · rw [decide_eq_true (show (1 : Int) ≤ z.length by omega), decide_eq_true h1]
    walk_at "wu"
    by_cases h2 : z.length ≤ 8
    · rw [decide_eq_true (show (z.length : Int) ≤ 8 by omega), decide_eq_true h2]
      simp_all! [show seqOf s (.str z) = some (signs z, any_) from rfl]
      refine wpI_intro (le_line (by rw [signs_len]; show z.length ≤ 1000; omega)) ?_
      rw [lcL_pure (fun d => match d with
        | .str w => some (.bl (w.cps.toList.all fun c => decide (c ∈ letters.cps.toList)))
        | _ => none) (fun d hd => ?_)]
      · have ef : (signs z).filterMap (fun d => match d with
          | .str w => some (D.bl (w.cps.toList.all fun c => decide (c ∈ letters.cps.toList)))
          | _ => none) = z.cps.toList.map fun c => D.bl (decide (c ∈ letters.cps.toList)) := by
          unfold signs
          generalize z.cps.toList = l
          induction l with
          | nil => rfl
          | cons c l ih => rw [List.map_cons, List.filterMap_cons, ih]; simp
        rw [ef]
        simp_all! [gAll_map]
        exact ⟨by rw [Bool.true_and, Bool.true_and], by trivial⟩
      · unfold signs at hd
        obtain ⟨c, hc, rfl⟩ := List.mem_map.mp hd
        refine ⟨_, rfl, rfl, ?_⟩
        have g : fIn s (.str ⟨#[c]⟩) (.str "abcdefghijklmnopqrstuvwxyz") = some (.bl (decide (c ∈ letters.cps.toList))) := rfl
        simp only [mOp, mVar, mC, wipeE, List.set_cons_zero, List.set_cons_succ, List.getElem?_cons_zero, List.getElem?_cons_succ, bnd_ok, g, ofO_some]
        simp
    · rw [decide_eq_false (show ¬ (z.length : Int) ≤ 8 by omega), decide_eq_false h2]
      walk_at "wu"
      exact ⟨by simp, by trivial⟩
  · rw [decide_eq_false (show ¬ (1 : Int) ≤ z.length by omega), decide_eq_false h1]
    walk_at "wu"
    exact ⟨by simp, by trivial⟩
theorem is_name_yes {s : Sto} {z : Str} (h : NameOk z) : p_is_name [.str z] s = some (.ok (.bl true) s) := by
  have hl : z.length ≤ 8 := h.hi
  rw [is_name_str (by omega), h.b]
theorem is_list_kd {s : Sto} {x : D} {b : Bool} (e : (kdD s x).bind (fB ["list", "tuple"]) = some b) : p_is_list [x] s = some (.ok (.bl b) s) := by
  refine eq_wp ?_
  unfold p_is_list
  refine wp_fn (by simp) ?_
  simp_all! [e]
  exact ⟨by trivial, by trivial⟩
end MP


set_option Elab.async false
set_option linter.all false
set_option maxRecDepth 100000
set_option maxHeartbeats 8000000
/-! TB3: things that may be layers -/
namespace MP
variable [Wd]
open PySem L2
abbrev La := Bool × Str
/-! ### things -/
inductive It : D → Prop where
  | str {z : Str} (h : PyData.strOk z = true) (hl : z.length ≤ 1000) : It (.str z)
  | seven : It (.int 7)
  | xs : It (.lst [.str "x"])
inductive Th (t : Sto) : D → Prop where
  | tup {w : Str} {r : List D} (hw : PyData.strOk w = true) (hr : ∀ d ∈ r, It d) (hl : r.length ≤ 5) : Th t (.tup (.str w :: r))
  | str {z : Str} (h : PyData.strOk z = true) : Th t (.str z)
  | seven : Th t (.int 7)
  | non : Th t .non
  | nil : Th t (.lst [])
  | dct {n : Nat} (h : t[n]? = some (.dct [])) : Th t (.ref (n + 2))
theorem Th.keep {t t' : Sto} {x : D} (h : Th t x) (k : ∀ n : Nat, t[n]? = some (Ob.dct []) → t'[n]? = some (Ob.dct [])) : Th t' x := by
  cases h with
  | tup a b c => exact .tup a b c
  | str a => exact .str a
  | seven => exact .seven
  | non => exact .non
  | nil => exact .nil
  | dct a => exact .dct (k _ a)
section
variable {q : Sp0} {t : Sto} {x y : D}
end
end MP


set_option Elab.async false
set_option linter.all false
set_option maxRecDepth 100000
set_option maxHeartbeats 8000000
/-! TB4: things with tuples in the place of lists; the first bad one -/
namespace MP
variable [Wd]
open PySem L2
def frI : D → D
  | .lst l => .tup l
  | d => d
def frz : D → D
  | .tup l => .tup (l.map frI)
  | .lst l => .tup (l.map frI)
  | d => d
/-! ### as data -/
end MP


set_option Elab.async false
set_option linter.all false
set_option maxRecDepth 100000
set_option maxHeartbeats 8000000
/-! TB5: things as they are passed; the first bad one -/
namespace MP
variable [Wd]
open PySem L2
section
variable {q : Sp0} {t : Sto} {Q : D → Sto → Prop} {E : XP}
end
end MP


set_option Elab.async false
set_option linter.all false
set_option maxRecDepth 100000
set_option maxHeartbeats 8000000
/-! TB6: squares, tables -/
namespace MP
variable [Wd]
open PySem L2
open PySem.W (dataLe)
abbrev Sq := Str × Str
def sqD (p : Sq) : D := .tup [.str p.1, .str p.2]
def sqP (p : Sq) : PyData := .tuple [.str p.1, .str p.2]
theorem pyL_sq : ∀ l : List Sq, pyL (l.map sqD) = some (l.map sqP)
  | [] => rfl
  | p :: l => by
    rw [List.map_cons, pyL, pyL_sq l]
    rfl
theorem alike_sq (a b : Sq) : PySem.W.alike (sqP a) (sqP b) = true := by
  unfold sqP
  simp [PySem.W.alike, PySem.W.alikeAll]
theorem sort_ok {l : List Sq} : (alikeB (l.map sqP) && (sortB (l.map sqP) && ((l.map sqP).all fun p => decide (p.depth ≤ 50)))) = true := by
  rw [Bool.and_eq_true, Bool.and_eq_true]
  refine ⟨?_, ?_, ?_⟩
  · unfold alikeB
    rw [List.all_eq_true]
    intro x hx
    rw [List.all_eq_true]
    intro y hy
    obtain ⟨a, _, rfl⟩ := List.mem_map.mp hx
    obtain ⟨b, _, rfl⟩ := List.mem_map.mp hy
    exact alike_sq a b
  · unfold sortB
    rw [Bool.or_eq_true]
    left
    rw [List.all_eq_true]
    intro x hx
    obtain ⟨a, _, rfl⟩ := List.mem_map.mp hx
    rfl
  · rw [List.all_eq_true]
    intro x hx
    obtain ⟨a, _, rfl⟩ := List.mem_map.mp hx
    unfold sqP
    simp [PyData.depth, PyData.depthAll]
/-- squares in order -/
noncomputable def srtQ (l : List Sq) : List Sq := l.mergeSort fun a b => dataLe false pyV (sqD a) (sqD b)
theorem srtD_sq (l : List Sq) : srtD (l.map sqD) = (srtQ l).map sqD := by
  unfold srtD srtQ
  rw [List.map_mergeSort]
  intro a _ b _
  rfl
theorem srtQ_perm (l : List Sq) : (srtQ l).Perm l := List.mergeSort_perm _ _
theorem gSortP_sq {s : Sto} {x : D} {l : List Sq} (h : lst? s x = some (l.map sqD)) : gSortP s [x] = some (.lst ((srtQ l).map sqD)) := by
  unfold gSortP
  dsimp only
  rw [h]
  dsimp only
  rw [pyL_sq]
  dsimp only
  rw [if_pos sort_ok, srtD_sq]
theorem gSortN_sq {s : Sto} {x : D} {l : List Sq} {f : Sq → D} (h : nd? s x = some (l.map fun p => (sqD p, f p))) : gSortN s [x] = some (.lst ((srtQ l).map sqD)) := by
  unfold gSortN
  dsimp only
  rw [h]
  dsimp only
  rw [show (l.map fun p => (sqD p, f p)).map (·.1) = l.map sqD by rw [List.map_map]; rfl, pyL_sq]
  dsimp only
  rw [if_pos sort_ok, srtD_sq]
/-! ### keys -/
def keyQ (p : Sq) : NestedKey := .tup [.text p.1, .text p.2]
theorem keyQ_inj {a b : Sq} (h : keyQ a = keyQ b) : a = b := by
  unfold keyQ at h
  injection h with h
  injection h with h1 h2
  injection h1 with h1
  injection h2 with h2 _
  injection h2 with h2
  exact Prod.ext h1 h2
theorem keyN_sq (p : Sq) : keyN (sqD p) = some (keyQ p) := by
  unfold sqD keyQ
  simp [keyN, keyNs]
theorem nk_sq (p : Sq) : nk? (sqD p) = some (keyQ p) := by
  unfold nk?
  rw [keyN_sq]
  unfold keyQ
  dsimp only
  rw [if_pos (by simp [NestedKey.depth, NestedKey.depthAll])]
theorem get_sq {f : Sq → D} {p : Sq} : ∀ {l : List Sq}, getNd (l.map fun p => (sqD p, f p)) (keyQ p) = if p ∈ l then some (f p) else none
  | [] => rfl
  | a :: l => by
    have ih := get_sq (f := f) (p := p) (l := l)
    unfold getNd placeD at ih ⊢
    rw [List.map_cons, List.findIdx?_cons]
    dsimp only
    rw [keyN_sq]
    by_cases h : p = a
    · subst h
      rw [decide_eq_true rfl, if_pos rfl, if_pos List.mem_cons_self]
      rfl
    · have hk : (some (keyQ a) = some (keyQ p)) = False := eq_false fun e => h (keyQ_inj (Option.some.inj e)).symm
      rw [decide_eq_false (by rw [hk]; exact id), if_neg (by simp)]
      have hm : (p ∈ a :: l) = (p ∈ l) := by rw [List.mem_cons]; simp [h]
      simp only [hm]
      rw [← ih]
      cases (l.map fun p => (sqD p, f p)).findIdx? fun q => decide (keyN q.1 = some (keyQ p)) with
      | none => rfl
      | some j => rfl
theorem put_sq {f : Sq → D} {p : Sq} {l : List Sq} (h : p ∉ l) : putNd (l.map fun p => (sqD p, f p)) (keyQ p) (sqD p) (f p) = (l ++ [p]).map fun p => (sqD p, f p) := by
  have e := get_sq (f := f) (p := p) (l := l)
  rw [if_neg h] at e
  unfold putNd
  unfold getNd at e
  cases hp : placeD (l.map fun p => (sqD p, f p)) (keyQ p) with
  | none => rw [List.map_append]; rfl
  | some j =>
    rw [hp] at e
    dsimp only [Option.bind_some] at e
    unfold placeD at hp
    obtain ⟨hl, _⟩ := List.findIdx?_eq_some_iff_getElem.mp hp
    rw [List.getElem?_eq_getElem hl] at e
    cases e
end MP


set_option Elab.async false
set_option linter.all false
set_option maxRecDepth 100000
set_option maxHeartbeats 8000000
/-! TB7: a table is made -/
namespace MP
variable [Wd]
open PySem L2
section
variable {q : Sp0} {t : Sto} {Q : D → Sto → Prop} {E : XP}
theorem ins_stm {P : Nat} {C : Str} {fs : List (Str × D)} (h : t[P]? = some (.ins C fs)) : ins? (stm q t) C (.ref (P + 2)) = some (P + 2, fs) := by
  unfold ins?
  dsimp only
  rw [stm_get, h]
  dsimp only
  rw [if_pos rfl]
theorem dd_perm {zs : List Str} (h : zs.Nodup) : (ddS zs).Perm zs := by
  refine List.perm_iff_count.mpr fun a => ?_
  rw [List.Nodup.count (ddS_nodup zs), List.Nodup.count h]
  simp [ddS_mem]
/-- names in order -/
theorem sorted_names_eq {s : Sto} {x : D} {zs : List Str} {G : Sto → Prop} (hx : seqOf s x = some (zs.map .str, G)) (hi : items? s x = some (zs.map .str)) (hG : G s) (hl : zs.length ≤ 1000) (hn : ∀ z ∈ zs, NameOk z) : p_sorted_names [x] s = some (.ok (.lst ((srt (ddS zs)).map .str)) s) := by
  refine eq_wp ?_
  unfold p_sorted_names
  refine wp_fn (by simp) ?_
  have ht : txtsOf s x = some zs := by
    unfold txtsOf
    rw [hi, Option.bind_some, txts_map]
    dsimp only
    rw [if_pos (by omega)]
  simp_all! [hx]
  refine wp_for (fun rest ρ s' => ∃ (r : List Str) (o1 : Option D), rest = r.map .str ∧ (∀ z ∈ r, NameOk z) ∧ ρ = [some x, o1] ∧ s' = s) ?_ ?_ ⟨zs, none, rfl, hn, rfl, rfl⟩
  · rintro d ds ρ s' ⟨r, o1, hr, hn, rfl, rfl⟩
    refine ⟨hG, ?_⟩
    cases r with
    | nil => cases hr
    | cons z r =>
      cases hr
      simp_all! [is_name_yes (s := s') (hn z List.mem_cons_self), Bool.not_true]
      exact ⟨r, _, rfl, fun y hy => hn y (List.mem_cons_of_mem _ hy), rfl, by first | rfl | trivial⟩
  · rintro ρ s' ⟨r, o1, hr, hn, rfl, rfl⟩
    refine ⟨hG, ?_⟩
    simp_all! [ht]
    exact ⟨by trivial, by trivial⟩
/-- the fields of a table -/
def tabF (cs ws : List Str) (b : Nat) : List (Str × D) := [("cell_names", .lst (cs.map .str)), ("way_names", .lst (ws.map .str)), ("back", .ref b)]
/-- a comprehension that changes nothing, over a box -/
theorem ndL_pureG {G : Sto → Prop} {g : MG} {c : MT} {a b : ME} {ρ : Env} {s : Sto} (hG : G s) (f : D → NestedKey × D × D) : ∀ {ds : List D} {acc : List (D × D)}, (∀ d ∈ ds, ∃ ρ1, g d ρ s = some (.ok ρ1 s) ∧ c ρ1 s = some (.ok true s) ∧ a ρ1 s = some (.ok (f d).2.1 s) ∧ b ρ1 s = some (.ok (f d).2.2 s) ∧ nk? (f d).2.1 = some (f d).1) → ndL G g c a b ρ ds acc s = some (.ok (ds.foldl (fun l d => putNd l (f d).1 (f d).2.1 (f d).2.2) acc) s)
  | [], acc, _ => by unfold ndL; rw [still_yes hG]; rfl
  | d :: ds, acc, h => by
    obtain ⟨ρ1, h1, h2, h3, h4, h5⟩ := h d List.mem_cons_self
    unfold ndL
    rw [still_yes hG, h1, noX_ok, bnd_ok, h2, noX_ok, bnd_ok, if_pos rfl, h3, noX_ok, bnd_ok, h4, noX_ok, bnd_ok, h5]
    exact ndL_pureG hG f (ds := ds) fun d hd => h d (List.mem_cons_of_mem _ hd)
/-- a list that is passed, as it stands beside a box at P that is written -/
def Given (q : Sp0) (t : Sto) (P : Nat) (x : D) (l : List D) : Prop := ∃ G : Sto → Prop, ∀ o : Ob, seqOf (stm q (t.set P o)) x = some (l, G) ∧ items? (stm q (t.set P o)) x = some l ∧ G (stm q (t.set P o))
theorem given_lst {P : Nat} {l : List D} : Given q t P (.lst l) l := ⟨any_, fun _ => ⟨rfl, rfl, trivial⟩⟩
theorem given_tup {P : Nat} {l : List D} : Given q t P (.tup l) l := ⟨any_, fun _ => ⟨rfl, rfl, trivial⟩⟩
theorem given_box {P k : Nat} {l : List D} (h : t[k]? = some (.lst l)) (hk : k ≠ P) : Given q t P (.ref (k + 2)) l := ⟨fun s => s[k + 2]? = some (.lst l), fun o => by
  have h2 : (t.set P o)[k]? = some (.lst l) := by rw [List.getElem?_set_ne (Ne.symm hk)]; exact h
  exact ⟨seqOf_stm h2, items_stm h2, h2⟩⟩
theorem put_1 {d : D} : putFD "cell_names" d [] = [(Str.ofString "cell_names", d)] := rfl
theorem put_2 {a d : D} : putFD "way_names" d [(Str.ofString "cell_names", a)] = [(Str.ofString "cell_names", a), (Str.ofString "way_names", d)] := rfl
theorem put_3 {a b d : D} : putFD "back" d [(Str.ofString "cell_names", a), (Str.ofString "way_names", b)] = [(Str.ofString "cell_names", a), (Str.ofString "way_names", b), (Str.ofString "back", d)] := rfl
end
end MP


set_option Elab.async false
set_option linter.all false
set_option maxRecDepth 100000
set_option maxHeartbeats 8000000
/-! TB8: the squares of a pile; its table -/
namespace MP
variable [Wd]
open PySem L2
section
variable {q : Sp0} {t : Sto} {Q : D → Sto → Prop} {E : XP}
theorem ext_stm {q : Sp0} {t : Sto} {k : Nat} {l m : List D} {y : D} (h : t[k]? = some (.lst l)) (hy : items? (stm q t) y = some m) (hl : l.length + m.length ≤ 1000000) : bExtend (stm q t) (.ref (k + 2)) [y] = some (.non, stm q (t.set k (.lst (l ++ m)))) := by
  unfold bExtend
  dsimp only
  rw [box_stm h, hy]
  dsimp only
  rw [if_pos (by omega), stm_upd]
end
end MP


set_option Elab.async false
set_option linter.all false
set_option maxRecDepth 100000
set_option maxHeartbeats 8000000
/-! TB9: the table of a pile -/
namespace MP
variable [Wd]
open PySem L2
/-- a comprehension over a box that changes nothing -/
theorem lcL_pureG {G : Sto → Prop} {g : MG} {c : MT} {elt : ME} {ρ : Env} {s : Sto} (hG : G s) (f : D → Option D) : ∀ {ds : List D},
    (∀ d ∈ ds, ∃ ρ1, g d ρ s = some (.ok ρ1 s) ∧ match f d with
      | some y => c ρ1 s = some (.ok true s) ∧ elt ρ1 s = some (.ok y s)
      | none => c ρ1 s = some (.ok false s)) → lcL G g c elt ρ ds s = some (.ok (ds.filterMap f) s)
  | [], _ => by unfold lcL; rw [still_yes hG]; rfl
  | d :: ds, h => by
    obtain ⟨ρ1, h1, h2⟩ := h d (List.mem_cons_self)
    have ih := lcL_pureG hG (g := g) (c := c) (elt := elt) (ρ := ρ) f (ds := ds) fun d hd => h d (List.mem_cons_of_mem _ hd)
    unfold lcL
    rw [still_yes hG, h1, noX_ok, bnd_ok]
    cases hf : f d with
    | none =>
      rw [hf] at h2
      dsimp only at h2
      rw [h2, noX_ok, bnd_ok, if_neg (by simp), ih, List.filterMap_cons, hf]
    | some y =>
      rw [hf] at h2
      obtain ⟨h2, h3⟩ := h2
      rw [h2, noX_ok, bnd_ok, if_pos rfl, h3, noX_ok, bnd_ok, ih, bnd_ok, List.filterMap_cons, hf]
theorem eq_wpT {x : RO Bool} {a : Bool} {s : Sto} (h : wpR x (fun d s' => d = a ∧ s' = s) (fun _ _ => False)) : x = some (.ok a s) := by
  obtain ⟨d, s', e, rfl, rfl⟩ := wpR_get h
  exact e
/-- a table in the store -/
structure TabAt (t : Sto) (P : Nat) (cs ws : List Str) (sq : List Sq) : Prop where
  at_ : ∃ b, t[P]? = some (.ins "Table" (tabF cs ws (b + 2))) ∧ t[b]? = some (.dn (sq.map fun p => (sqD p, .bl true)))
section
variable {t : Sto} {a b c o : Ob}
end
section
variable {q : Sp0} {t : Sto} {Q : D → Sto → Prop} {E : XP}
end
end MP


set_option Elab.async false
set_option linter.all false
set_option maxRecDepth 100000
set_option maxHeartbeats 8000000
/-! TBA: how a call ends; the same -/
namespace MP
variable [Wd]
open PySem L2
section
variable {q : Sp0} {t : Sto} {Q : D → Sto → Prop} {E : XP}
theorem start_eq {ns : List Int} : l_start [.scr ns] [] = some (.ok (.ref 1) (stm ⟨ns, 0, 0, 0⟩ [])) := by
  have key : wpR (l_start [.scr ns] []) (fun d s' => d = .ref 1 ∧ s' = stm ⟨ns, 0, 0, 0⟩ []) (fun _ _ => False) := by
    unfold l_start
    refine wp_fn (by simp) ?_
    walk_at "wp"
    have e : gListB [] [.scr ns] = some (.ref 0, [.lst (ns.map .int)]) := rfl
    rw [e]
    walk_at "wp"
    refine wpI_intro (le_line (by simp)) ?_
    exact ⟨rfl, rfl⟩
  exact eq_wp key
theorem wp_same {x y : D} {z : Str} (h1 : gRepr (stm q t) [x] = some (.str z)) (h2 : gRepr (stm q t) [y] = some (.str z)) (hQ : Q (.bl true) (stm q t)) : wpR (l_same [x, y] (stm q t)) Q E := by
  unfold l_same
  refine wp_fn (by simp) ?_
  have e : fEqT (stm q t) (.str z) (.str z) = some (.bl true) := by
    show some (D.bl (decide (z = z))) = _
    simp
  simp_all! [h1, h2, e]
  exact hQ
/-! ### what a table tells -/
section
variable {P : Nat} {cs ws : List Str} {sq : List Sq}
theorem tab_cells (h : TabAt t P cs ws sq) : c_Table_cells [.ref (P + 2)] (stm q t) = some (.ok (.lst (cs.map .str)) (stm q t)) := by
  obtain ⟨b, h1, h2⟩ := h.at_
  refine eq_wp ?_
  unfold c_Table_cells
  refine wp_fn (by simp) ?_
  simp_all! [ins_stm h1, Option.bind_some, show (tabF cs ws (b + 2)).lookup (Str.ofString "cell_names") = some (.lst (cs.map .str)) from rfl]
  exact ⟨by trivial, by trivial⟩
theorem tab_ways (h : TabAt t P cs ws sq) : c_Table_ways [.ref (P + 2)] (stm q t) = some (.ok (.lst (ws.map .str)) (stm q t)) := by
  obtain ⟨b, h1, h2⟩ := h.at_
  refine eq_wp ?_
  unfold c_Table_ways
  refine wp_fn (by simp) ?_
  simp_all! [ins_stm h1, Option.bind_some, show (tabF cs ws (b + 2)).lookup (Str.ofString "way_names") = some (.lst (ws.map .str)) from rfl]
  exact ⟨by trivial, by trivial⟩
theorem nd_stm {b : Nat} {l : List (D × D)} (h : t[b]? = some (.dn l)) : nd? (stm q t) (.ref (b + 2)) = some l := by
  unfold nd?
  dsimp only
  rw [stm_get, h]
theorem tab_squares (h : TabAt t P cs ws sq) : c_Table_squares [.ref (P + 2)] (stm q t) = some (.ok (.lst ((srtQ sq).map sqD)) (stm q t)) := by
  obtain ⟨b, h1, h2⟩ := h.at_
  refine eq_wp ?_
  unfold c_Table_squares
  refine wp_fn (by simp) ?_
  simp_all! [ins_stm h1, Option.bind_some, show (tabF cs ws (b + 2)).lookup (Str.ofString "back") = some (.ref (b + 2)) from rfl, gSortN_sq (f := fun _ => D.bl true) (nd_stm h2)]
  exact ⟨by trivial, by trivial⟩
end
end
end MP


set_option Elab.async false
set_option linter.all false
set_option maxRecDepth 100000
set_option maxHeartbeats 8000000
/-! TBB: layers in a drawn order; what is put in; what is shown -/
namespace MP
variable [Wd]
open PySem L2
section
variable {q : Sp0} {t : Sto} {Q : D → Sto → Prop} {E : XP}
def lays (cs ws : List Str) : List La := cs.map (fun c => (false, c)) ++ ws.map fun w => (true, w)
/-! ### what is shown -/
end
end MP


set_option Elab.async false
set_option linter.all false
set_option maxRecDepth 100000
set_option maxHeartbeats 8000000
/-! TH1: piles and crossings, plain -/
namespace MP
variable [Wd]
open PySem L2
section
variable (R : List Sq)
/-- the one has to stand ahead of the other -/
def ahead (a b : La) : Bool := match a, b with
  | (true, w), (false, c) => decide ((c, w) ∈ R)
  | (false, c), (true, w) => !decide ((c, w) ∈ R)
  | _, _ => false
end
variable {R : List Sq}
end MP


set_option Elab.async false
set_option linter.all false
set_option maxRecDepth 100000
set_option maxHeartbeats 8000000
/-! TH2: items of a table; which layer has to stand ahead; piled -/
namespace MP
variable [Wd]
open PySem L2
section
variable {q : Sp0} {t : Sto} {Q : D → Sto → Prop} {E : XP} {P : Nat} {cs ws : List Str} {sq : List Sq}
theorem TabAt.ext {t t' : Sto} (h : TabAt t P cs ws sq) (k : ∀ (i : Nat) (o : Ob), t[i]? = some o → t'[i]? = some o) : TabAt t' P cs ws sq := by
  obtain ⟨b, h1, h2⟩ := h.at_
  exact ⟨⟨b, k _ _ h1, k _ _ h2⟩⟩
theorem nq_stm {b : Nat} {p : Sq} {x : D} (h : t[b]? = some (.dn (sq.map fun p => (sqD p, D.bl true)))) (hx : x = sqD p) : nq? (stm q t) (.ref (b + 2)) x = some (if p ∈ sq then some (.bl true) else none) := by
  subst hx
  unfold nq? nd?
  dsimp only
  rw [stm_get, h]
  dsimp only [Option.bind_some]
  rw [nk_sq, Option.map_some, get_sq (f := fun _ => D.bl true)]
/-! ### taking one out -/
end
end MP


set_option Elab.async false
set_option linter.all false
set_option maxRecDepth 100000
set_option maxHeartbeats 8000000
/-! TH3: the least pile, walked -/
namespace MP
variable [Wd]
open PySem L2
section
variable {t : Sto} {a b o : Ob}
end
section
variable {q : Sp0} {t : Sto} {Q : D → Sto → Prop} {E : XP} {P : Nat} {cs ws : List Str} {sq : List Sq}
end
end MP


set_option Elab.async false
set_option linter.all false
set_option maxRecDepth 100000
set_option maxHeartbeats 8000000
/-! TH4: four that cross, walked -/
namespace MP
variable [Wd]
open PySem L2
section
variable {q : Sp0} {t : Sto} {Q : D → Sto → Prop} {E : XP} {P : Nat} {cs ws : List Str} {sq : List Sq}
end
end MP


set_option Elab.async false
set_option linter.all false
set_option maxRecDepth 100000
set_option maxHeartbeats 8000000
/-! TH5: squares in order, compared; the law's crossing -/
namespace MP
variable [Wd]
open PySem L2
open PySem.W (dataLe dataLt_pair alike)
def leQ (p q : Sq) : Prop := p.1.cps.toList ≤ q.1.cps.toList ∧ (q.1 = p.1 → p.2.cps.toList ≤ q.2.cps.toList)
theorem ltQ (p q : Sq) : PySem.W.dataLt (sqP p) (sqP q) = decide (p.1.cps.toList < q.1.cps.toList ∨ (p.1 = q.1 ∧ p.2.cps.toList < q.2.cps.toList)) := by
  unfold sqP
  rw [dataLt_pair (by simp [alike]) (by simp [alike]), PySem.W.dataLt_str, PySem.W.dataLt_str]
  simp only [PyData.eqv, beq_iff_eq]
  by_cases h1 : p.1 = q.1
  · by_cases h2 : p.2 = q.2 <;> simp [h1, h2, List.lt_irrefl]
  · simp [h1]
theorem leQ_iff (p q : Sq) : dataLe false pyV (sqD p) (sqD q) = true ↔ leQ p q := by
  have e : dataLe false pyV (sqD p) (sqD q) = !PySem.W.dataLt (sqP q) (sqP p) := by rw [PySem.W.dataLe_eq]; rfl
  rw [e, ltQ]
  unfold leQ
  simp only [Bool.not_eq_true', decide_eq_false_iff_not, not_or, not_and, List.not_lt]
theorem leQ_trans {p q r : Sq} (h1 : leQ p q) (h2 : leQ q r) : leQ p r := by
  refine ⟨List.le_trans h1.1 h2.1, fun e => ?_⟩
  have e1 : q.1.cps.toList ≤ p.1.cps.toList := by rw [← e]; exact h2.1
  have e2 : q.1 = p.1 := PySem.W.str_of_cps (List.le_antisymm e1 h1.1)
  exact List.le_trans (h1.2 e2) (h2.2 (e.trans e2.symm))
theorem leQ_total (p q : Sq) : leQ p q ∨ leQ q p := by
  by_cases e : q.1 = p.1
  · rcases List.le_total p.2.cps.toList q.2.cps.toList with h | h
    · exact .inl ⟨by rw [e]; exact List.le_refl _, fun _ => h⟩
    · exact .inr ⟨by rw [e]; exact List.le_refl _, fun _ => h⟩
  · rcases List.le_total p.1.cps.toList q.1.cps.toList with h | h
    · exact .inl ⟨h, fun x => absurd x e⟩
    · exact .inr ⟨h, fun x => absurd x.symm e⟩
theorem leQ_anti {p q : Sq} (h1 : leQ p q) (h2 : leQ q p) : p = q := by
  have e : p.1 = q.1 := PySem.W.str_of_cps (List.le_antisymm h1.1 h2.1)
  exact Prod.ext e (PySem.W.str_of_cps (List.le_antisymm (h1.2 e.symm) (h2.2 e)))
theorem srtQ_pw (l : List Sq) : (srtQ l).Pairwise leQ := by
  have := List.pairwise_mergeSort (le := fun a b : Sq => dataLe false pyV (sqD a) (sqD b)) (fun a b c h1 h2 => (leQ_iff _ _).mpr (leQ_trans ((leQ_iff _ _).mp h1) ((leQ_iff _ _).mp h2))) (fun a b => by rw [Bool.or_eq_true, leQ_iff, leQ_iff]; exact leQ_total a b) l
  exact this.imp fun h => (leQ_iff _ _).mp h
theorem srtQ_uniq {l m : List Sq} (h : l.Perm m) (hm : m.Pairwise leQ) : srtQ l = m :=
  List.Perm.eq_of_pairwise (fun a b _ _ => leQ_anti) (srtQ_pw l) hm ((srtQ_perm l).trans h)
/-- all squares -/
def allQ (cs ws : List Str) : List Sq := cs.flatMap fun c => ws.map fun w => (c, w)
theorem allQ_mem {cs ws : List Str} {p : Sq} : p ∈ allQ cs ws ↔ p.1 ∈ cs ∧ p.2 ∈ ws := by
  unfold allQ
  simp only [List.mem_flatMap, List.mem_map]
  constructor
  · rintro ⟨c, hc, w, hw, rfl⟩; exact ⟨hc, hw⟩
  · rintro ⟨h1, h2⟩; exact ⟨p.1, h1, p.2, h2, rfl⟩
theorem srt_lt {l : List Str} (hn : l.Nodup) (hs : srt l = l) : l.Pairwise fun a b => a.cps.toList ≤ b.cps.toList ∧ a ≠ b := by
  have h1 : l.Pairwise leS := by rw [← hs]; exact srt_pw l
  unfold List.Nodup at hn
  exact h1.imp₂ (fun a b h1 h2 => ⟨h1, h2⟩) hn
theorem allQ_pw {cs ws : List Str} (h1 : cs.Nodup) (h2 : ws.Nodup) (s1 : srt cs = cs) (s2 : srt ws = ws) : (allQ cs ws).Pairwise leQ := by
  have w2 := srt_lt h2 s2
  have c2 := srt_lt h1 s1
  unfold allQ
  rw [List.pairwise_flatMap]
  refine ⟨fun c _ => ?_, ?_⟩
  · rw [List.pairwise_map]
    exact w2.imp fun h => ⟨List.le_refl _, fun _ => h.1⟩
  · refine c2.imp fun {a b} h x hx y hy => ?_
    obtain ⟨w, _, rfl⟩ := List.mem_map.mp hx
    obtain ⟨v, _, rfl⟩ := List.mem_map.mp hy
    exact ⟨h.1, fun e => absurd e.symm h.2⟩
theorem allQ_nd {cs ws : List Str} (h1 : cs.Nodup) (h2 : ws.Nodup) : (allQ cs ws).Nodup := by
  unfold allQ List.Nodup
  rw [List.pairwise_flatMap]
  refine ⟨fun c _ => ?_, ?_⟩
  · rw [List.pairwise_map]
    exact h2.imp fun h e => h (Prod.mk.inj e).2
  · refine h1.imp fun {a b} h x hx y hy e => ?_
    obtain ⟨w, _, rfl⟩ := List.mem_map.mp hx
    obtain ⟨v, _, rfl⟩ := List.mem_map.mp hy
    exact h (Prod.mk.inj e).1
theorem nd_len {α : Type} [DecidableEq α] : ∀ {a b : List α}, a.Nodup → (∀ x ∈ a, x ∈ b) → a.length ≤ b.length
  | [], b, _, _ => Nat.zero_le _
  | x :: a, b, hn, hs => by
    obtain ⟨h1, h2⟩ := List.nodup_cons.mp hn
    have hx : x ∈ b := hs x List.mem_cons_self
    have := nd_len (b := b.erase x) h2 fun y hy => by
      have hne : y ≠ x := fun e => h1 (e ▸ hy)
      exact (List.mem_erase_of_ne hne).mpr (hs y (List.mem_cons_of_mem _ hy))
    rw [List.length_erase_of_mem hx] at this
    have := List.length_pos_of_mem hx
    rw [List.length_cons]
    omega
/-- some squares, in order, each once -/
structure SqOk (cs ws : List Str) (sq : List Sq) : Prop where
  nd : sq.Nodup
  pw : sq.Pairwise leQ
  sub : ∀ p ∈ sq, p.1 ∈ cs ∧ p.2 ∈ ws
theorem SqOk.len {cs ws : List Str} {sq : List Sq} (h : SqOk cs ws sq) : sq.length ≤ cs.length * ws.length := by
  have : sq.length ≤ (allQ cs ws).length := nd_len h.nd fun p hp => allQ_mem.mpr (h.sub p hp)
  have e : (allQ cs ws).length = cs.length * ws.length := by
    unfold allQ
    rw [List.length_flatMap]
    simp only [List.length_map, List.map_const', List.sum_replicate_nat]
  omega
theorem SqOk.of_perm {cs ws : List Str} {l : List Sq} (hn : l.Nodup) (h : ∀ p ∈ l, p.1 ∈ cs ∧ p.2 ∈ ws) : SqOk cs ws (srtQ l) := ⟨(srtQ_perm l).nodup_iff.mpr hn, srtQ_pw l, fun p hp => h p ((srtQ_perm l).mem_iff.mp hp)⟩
theorem SqOk.sublist {cs ws : List Str} {l m : List Sq} (h : SqOk cs ws m) (s : l.Sublist m) : SqOk cs ws l := ⟨s.nodup h.nd, List.Pairwise.sublist s h.pw, fun p hp => h.sub p (s.subset hp)⟩
/-! ### as data -/
theorem mapM_sq {s : Sto} {n : Nat} : ∀ L : List Sq, (L.map sqD).mapM (pyF (n + 2) s) = some (L.map sqP)
  | [] => rfl
  | a :: L => by rw [List.map_cons, List.mapM_cons, show pyF (n + 2) s (sqD a) = some (sqP a) from rfl, mapM_sq L]; rfl
theorem pyF_sqs {s : Sto} {L : List Sq} : pyF 60 s (.lst (L.map sqD)) = some (.list (L.map sqP)) := by
  show ((L.map sqD).mapM (pyF 59 s)).map PyData.list = _
  rw [mapM_sq (n := 57)]; rfl
def StrQ (p : Sq) : Prop := PyData.strOk p.1 = true ∧ PyData.strOk p.2 = true
theorem lay_sq {p : Sq} (h : StrQ p) : (sqP p).canLay0 = true ∧ (sqP p).depth = 1 := by
  unfold sqP
  simp [PyData.canLay0, PyData.canLayAll0, PyData.depth, PyData.depthAll, h.1, h.2]
theorem lay_sqs : ∀ {L : List Sq}, (∀ p ∈ L, StrQ p) → PyData.canLayAll0 (L.map sqP) = true ∧ PyData.depthAll (L.map sqP) ≤ 1
  | [], _ => by simp [PyData.canLayAll0, PyData.depthAll]
  | a :: L, h => by
    obtain ⟨h1, h2⟩ := lay_sqs (L := L) fun b hb => h b (List.mem_cons_of_mem _ hb)
    obtain ⟨h3, h4⟩ := lay_sq (h a List.mem_cons_self)
    rw [List.map_cons, PyData.canLayAll0, PyData.depthAll, h1, h3, h4]
    exact ⟨rfl, by omega⟩
theorem shaped_sq {p : Sq} (h : StrQ p) : SeqAt.shaped (sqP p) = true := by
  obtain ⟨h1, h2⟩ := lay_sq h
  unfold SeqAt.shaped
  rw [h1, h2]; rfl
theorem shaped_sqs {L : List Sq} (h : ∀ p ∈ L, StrQ p) : SeqAt.shaped (.list (L.map sqP)) = true := by
  obtain ⟨h1, h2⟩ := lay_sqs h
  unfold SeqAt.shaped
  rw [PyData.canLay0, h1, PyData.depth, decide_eq_true (by omega)]
  rfl
theorem eqv_sq (a b : Sq) : PyData.eqv (sqP a) (sqP b) = decide (a = b) := by
  unfold sqP
  simp only [PyData.eqv, PyData.eqvAll, Bool.and_true, beq_dec]
  by_cases h : a = b
  · subst h; simp
  · rw [decide_eq_false h]
    by_cases h1 : a.1 = b.1
    · have : a.2 ≠ b.2 := fun e => h (Prod.ext h1 e)
      simp [this]
    · simp [h1]
theorem eqv_sqs : ∀ {l m : List Sq}, PyData.eqvAll (l.map sqP) (m.map sqP) = decide (l = m)
  | [], [] => by simp [PyData.eqvAll]
  | [], b :: m => by simp [PyData.eqvAll]
  | a :: l, [] => by simp [PyData.eqvAll]
  | a :: l, b :: m => by
    rw [List.map_cons, List.map_cons, PyData.eqvAll, eqv_sq, eqv_sqs]
    by_cases h : a = b <;> simp [h]
theorem any_sq {L : List Sq} {b : Sq} : ((L.map sqP).any fun z => PyData.eqv z (sqP b)) = decide (b ∈ L) := by
  rw [List.any_map]
  induction L with
  | nil => simp
  | cons a L ih =>
    rw [List.any_cons, ih]
    show (PyData.eqv (sqP a) (sqP b) || _) = _
    rw [eqv_sq]
    by_cases h : a = b
    · subst h; simp
    · have : ¬ b = a := fun e => h e.symm
      simp [h, this]
theorem inD_sq {s : Sto} {L : List Sq} {b : Sq} (hL : ∀ a ∈ L, StrQ a) (hb : StrQ b) : inD? s (sqD b) (.lst (L.map sqD)) = some (decide (b ∈ L)) := by
  unfold inD?
  rw [show pyF 60 s (sqD b) = some (sqP b) from rfl, pyF_sqs]
  dsimp only
  rw [shaped_sq hb, shaped_sqs hL, if_pos (by rfl), any_sq]
theorem fInD_sq {s : Sto} {L : List Sq} {b : Sq} (hL : ∀ a ∈ L, StrQ a) (hb : StrQ b) : fInD s (sqD b) (.lst (L.map sqD)) = some (.bl (decide (b ∈ L))) := by
  unfold fInD
  rw [inD_sq hL hb]; rfl
theorem fEq_sqs {s : Sto} {l m : List Sq} (h1 : ∀ p ∈ l, StrQ p) (h2 : ∀ p ∈ m, StrQ p) : fEq s (.lst (l.map sqD)) (.lst (m.map sqD)) = some (.bl (decide (l = m))) := by
  unfold fEq eqD
  rw [show pyS s (.lst (l.map sqD)) = (pyL (l.map sqD)).map PyData.list from rfl, show pyS s (.lst (m.map sqD)) = (pyL (m.map sqD)).map PyData.list from rfl, pyL_sq, pyL_sq]
  dsimp only [Option.map_some]
  rw [shaped_sqs h1, shaped_sqs h2, if_pos (by rfl)]
  unfold PyData.eqv
  rw [eqv_sqs]
  rfl
end MP


set_option Elab.async false
set_option linter.all false
set_option maxRecDepth 100000
set_option maxHeartbeats 8000000
/-! TH6: the law's crossing; squares drawn; tables compared -/
namespace MP
variable [Wd]
open PySem L2
section
variable {q : Sp0} {t : Sto} {Q : D → Sto → Prop} {E : XP} {P : Nat} {cs ws : List Str} {sq : List Sq}
/-! ### squares drawn -/
theorem wp_squares (hcl : cs.length ≤ 20) (hwl : ws.length ≤ 20) (hQ : Q (.ref (t.length + 2)) (stm q (t ++ [.lst ((allQ cs ws).map sqD)]))) : wpR (l_squares [.lst (cs.map .str), .lst (ws.map .str)] (stm q t)) Q E := by
  unfold l_squares
  refine wp_fn (by simp) ?_
  walk_at "wu"
  refine wp_for (fun rest ρ s => ∃ (a b : List Str) (o3 o4 : Option D), rest = b.map .str ∧ a ++ b = cs ∧ ρ = [some (.lst (cs.map .str)), some (.lst (ws.map .str)), some (.ref (t.length + 2)), o3, o4] ∧ s = stm q (t ++ [.lst ((allQ a ws).map sqD)])) ?_ ?_ ⟨[], cs, _, _, rfl, rfl, by first | rfl | trivial, rfl⟩
  · rintro d ds ρ s ⟨a, b, o3, o4, hb, hab, rfl, rfl⟩
    refine ⟨trivial, ?_⟩
    cases b with
    | nil => cases hb
    | cons c b =>
      cases hb
      have al : (allQ a ws).length ≤ 400 := by
        have h1 := congrArg List.length hab
        rw [List.length_append, List.length_cons] at h1
        have e : (allQ a ws).length = a.length * ws.length := by
          unfold allQ
          rw [List.length_flatMap]
          simp only [List.length_map, List.map_const', List.sum_replicate_nat]
        rw [e]
        exact Nat.le_trans (Nat.mul_le_mul (show a.length ≤ 20 by omega) hwl) (by decide)
      simp_all! [tyL_stm last_get]
      refine wpI_intro (le_line (by rw [List.length_map]; omega)) ?_
      rw [lcL_pure (fun d => match d with
        | .str w => some (sqD (c, w))
        | _ => none) (fun d hd => ?_)]
      · have ef : (ws.map D.str).filterMap (fun d => match d with
          | .str w => some (sqD (c, w))
          | _ => none) = (ws.map fun w => (c, w)).map sqD := by
          rw [List.filterMap_map, List.map_map]
          rw [show ((fun d : D => match d with
            | .str w => some (sqD (c, w))
            | _ => none) ∘ D.str) = some ∘ (sqD ∘ fun w => (c, w)) from rfl, List.filterMap_eq_map]
        rw [ef]
        have ex := ext_stm (q := q) (t := t ++ [.lst ((allQ a ws).map sqD)]) (k := t.length) (y := .lst ((ws.map fun w => (c, w)).map sqD)) last_get rfl (by rw [List.length_map, List.length_map, List.length_map]; omega)
        simp_all! [ex]
        rw [last_set, ← List.map_append]
        refine ⟨a ++ [c], b, _, _, rfl, by rw [← hab]; simp, by first | rfl | trivial, ?_⟩
        unfold allQ
        rw [List.flatMap_append, List.flatMap_singleton]
      · obtain ⟨w, hw2, rfl⟩ := List.mem_map.mp hd
        refine ⟨_, rfl, rfl, eq_wp ?_⟩
        walk_at "wu"
        exact ⟨by trivial, by trivial⟩
  · rintro ρ s ⟨a, b, o3, o4, hb, hab, rfl, rfl⟩
    refine ⟨trivial, ?_⟩
    cases b with
    | cons a r => cases hb
    | nil =>
      rw [List.append_nil] at hab
      subst hab
      walk_at "wu"
      exact hQ
theorem wp_some {k : Nat} {l : List Sq} (hq : q.Ok) (hb : q.b < 5000000) (hk : t[k]? = some (.lst (l.map sqD))) (hl : l.length ≤ 400) (hQ : ∀ (m : List Sq) (q' : Sp0), m.Sublist l → Adv q q' l.length → Q (.lst (m.map sqD)) (stm q' t)) : wpR (l_some [.ref 1, .ref (k + 2)] (stm q t)) Q E := by
  unfold l_some
  refine wp_fn (by simp) ?_
  simp_all! [seqOf_stm hk]
  refine wpI_intro (le_line (by rw [List.length_map]; omega)) ?_
  refine wp_lcB (fun rest acc s => ∃ (q2 : Sp0) (a b m : List Sq), s = stm q2 t ∧ rest = b.map sqD ∧ a ++ b = l ∧ acc = m.map sqD ∧ m.Sublist a ∧ Adv q q2 a.length) ?_ ?_ ⟨q, [], l, [], rfl, rfl, rfl, rfl, .slnil, Adv.refl hq⟩
  · rintro d ds acc s ⟨q2, a, b, m, rfl, hb2, hab, rfl, hm, a2⟩
    refine ⟨hk, ?_⟩
    cases b with
    | nil => cases hb2
    | cons p b =>
      cases hb2
      have hal : a.length ≤ 400 := by have := congrArg List.length hab; rw [List.length_append] at this; omega
      have e2 := a2.hi
      walk_at "wu"
      refine wp_draw a2.ok (by omega) (by decide) (by decide) fun i q3 hi a3 => ?_
      walk_at "wu"
      refine wpB_intro (fun _ => ?_) (fun _ => ?_)
      · walk_at "wu"
        exact ⟨q3, a ++ [p], b, m ++ [p], rfl, rfl, by rw [← hab]; simp, by rw [List.map_append]; rfl, hm.append (.refl _), a2.trans a3 (by rw [List.length_append]; simp)⟩
      · exact ⟨q3, a ++ [p], b, m, rfl, rfl, by rw [← hab]; simp, rfl, hm.trans (List.sublist_append_left _ _), a2.trans a3 (by rw [List.length_append]; simp)⟩
  · rintro acc s ⟨q2, a, b, m, rfl, hb2, hab, rfl, hm, a2⟩
    refine ⟨hk, ?_⟩
    cases b with
    | cons _ _ => cases hb2
    | nil =>
      rw [List.append_nil] at hab
      subst hab
      walk_at "wu"
      exact hQ m q2 hm a2
end
end MP


set_option Elab.async false
set_option linter.all false
set_option maxRecDepth 100000
set_option maxHeartbeats 8000000
/-! TH7: a pile keeps its own squares' order; tables are equal -/
namespace MP
variable [Wd]
open PySem L2
/-! ### equal tables -/
theorem eqv_strs : ∀ l : List Str, PyData.eqvAll (l.map PyData.str) (l.map PyData.str) = true
  | [] => by simp [PyData.eqvAll]
  | a :: l => by rw [List.map_cons, PyData.eqvAll, eqv_strs l]; simp [PyData.eqv]
theorem pyL_strs : ∀ l : List Str, pyL (l.map D.str) = some (l.map PyData.str)
  | [] => rfl
  | a :: l => by rw [List.map_cons, pyL, pyL_strs l]; rfl
theorem lay_strs : ∀ {l : List Str}, (∀ z ∈ l, PyData.strOk z = true) → PyData.canLayAll0 (l.map PyData.str) = true ∧ PyData.depthAll (l.map PyData.str) = 0
  | [], _ => ⟨rfl, rfl⟩
  | a :: l, h => by
    obtain ⟨h1, h2⟩ := lay_strs (l := l) fun z hz => h z (List.mem_cons_of_mem _ hz)
    rw [List.map_cons, PyData.canLayAll0, PyData.depthAll, h1, h2, PyData.canLay0, h a List.mem_cons_self]
    exact ⟨rfl, rfl⟩
theorem fEq_strs {s : Sto} {l : List Str} (h : ∀ z ∈ l, PyData.strOk z = true) : fEq s (.lst (l.map .str)) (.lst (l.map .str)) = some (.bl true) := by
  obtain ⟨h1, h2⟩ := lay_strs h
  unfold fEq eqD
  rw [show pyS s (.lst (l.map D.str)) = (pyL (l.map D.str)).map PyData.list from rfl, pyL_strs]
  dsimp only [Option.map_some]
  have hs : SeqAt.shaped (.list (l.map PyData.str)) = true := by
    unfold SeqAt.shaped
    rw [PyData.canLay0, h1, PyData.depth, h2]; rfl
  rw [hs, if_pos (by rfl)]
  unfold PyData.eqv
  rw [eqv_strs]
  rfl
section
variable {q : Sp0} {t : Sto} {Q : D → Sto → Prop} {E : XP} {P P2 : Nat} {cs ws : List Str} {sq sq2 : List Sq}
end
end MP


set_option Elab.async false
set_option linter.all false
set_option maxRecDepth 100000
set_option maxHeartbeats 4000000
/-! KT0: wp of the signs of tables, of in and pop -/
namespace MP
variable [Wd]
open PySem L2
section
variable {ρ : Env} {s : Sto} {a b c e m : ME} {Q : D → Sto → Prop} {E : XP} {C : Str} {fm : FM}
theorem wp_mBinO : wpR (mBinO C fm a b ρ s) Q E = wpR (a ρ s) (fun x s => wpR (b ρ s) (fun y s => wpI ((ins? s C x).isSome = true) (wpI ((ins? s C y).isSome = true) (wpR (fm [x, y] s) Q E))) E) E := by
  unfold mBinO
  rw [wpR_bnd]
  refine wpR_ext fun x s => ?_
  rw [wpR_bnd]
  refine wpR_ext fun y s => ?_
  cases ins? s C x with
  | none => simp [wpI_def]
  | some nf => cases ins? s C y with
    | none => simp [wpI_def]
    | some nf2 => simp only [Option.isSome_some, wpI_true]
theorem wp_mInO : wpR (mInO C fm a b ρ s) Q E = wpR (a ρ s) (fun x s => wpR (b ρ s) (fun y s => wpI ((ins? s C y).isSome = true) (wpR (fm [y, x] s) (fun d s => wpO (asB d) fun k => Q (.bl k) s) E)) E) E := by
  unfold mInO
  rw [wpR_bnd]
  refine wpR_ext fun x s => ?_
  rw [wpR_bnd]
  refine wpR_ext fun y s => ?_
  cases ins? s C y with
  | none => simp [wpI_def]
  | some nf =>
    simp only [Option.isSome_some, wpI_true]
    rw [wpR_bnd]
    refine wpR_ext fun d s => ?_
    cases d <;> simp only [asB, wpO_some, wpR_ok, wpO_none, wpR_none]
theorem wp_mAugI {i : Nat} {N : Env → Sto → Prop} {Rt : D → Sto → Prop} {B C' : Env → Sto → Prop} {E : Xc → Env → Sto → Prop} : wpS (mAugI i C fm e ρ s) N Rt B C' E = wpO ρ[i]? (fun o => wpO o fun x => wpR (e ρ s) (fun y s => wpI ((ins? s C x).isSome = true) (wpR (fm [x, y] s) (fun d s => N (ρ.set i (some d)) s) (fun e s => E e ρ s))) (fun e s => E e ρ s)) := by
  unfold mAugI
  cases h : ρ[i]? with
  | none => simp only [wpO_none, wpS_none]
  | some o => cases o with
    | none => simp only [wpO_some, wpO_none, wpS_none]
    | some x =>
      simp only [wpO_some]
      rw [wpS_bnd]
      refine wpR_ext fun y s => ?_
      cases ins? s C x with
      | none => simp [wpI_def]
      | some nf =>
        simp only [Option.isSome_some, wpI_true]
        rw [wpS_bnd]
        refine wpR_ext fun d s => ?_
        simp only [wpS_nx]
def npop? (s : Sto) (x y z : D) : Option (D × Sto) := match x, nk? y with
  | .ref n, some k => (match s[n]? with
    | some (.dn l) => if l.length < 16777216 then some ((getNd l k).getD z, s.set n (.dn (eraNd l k))) else none
    | _ => none)
  | _, _ => none
theorem wp_mNPop : wpR (mNPop a b c ρ s) Q E = wpR (a ρ s) (fun x s => wpI ((nd? s x).isSome = true) (wpR (b ρ s) (fun y s => wpR (c ρ s) (fun z s => wpO (npop? s x y z) fun p => Q p.1 p.2) E) E)) E := by
  unfold mNPop npop?
  rw [wpR_bnd]
  refine wpR_ext fun x s => ?_
  by_cases h : (nd? s x).isSome = true
  · rw [if_pos h]
    simp only [h, wpI_true]
    rw [wpR_bnd]
    refine wpR_ext fun y s => ?_
    rw [wpR_bnd]
    refine wpR_ext fun z s => ?_
    cases x with
    | ref n =>
      cases nk? y with
      | none => simp only [wpO_none, wpR_none]
      | some k =>
        dsimp only
        cases s[n]? with
        | none => simp only [wpO_none, wpR_none]
        | some o => cases o with
          | dn l =>
            dsimp only
            by_cases hl : l.length < 16777216
            · rw [if_pos hl, if_pos hl]; simp only [wpO_some, wpR_ok]
            · rw [if_neg hl, if_neg hl]; simp only [wpO_none, wpR_none]
          | _ => simp only [wpO_none, wpR_none]
    | _ => simp only [wpO_none, wpR_none]
  · rw [if_neg h]
    simp only [wpI_def, h, wpR_none, Bool.false_eq_true, false_and]
theorem wp_mHeldFE {i : Nat} {f : Str} : wpR (mHeldFE i f m ρ s) Q E = wpO (heldFN ρ i f s) fun nl => wpR (m ρ (s.set nl.1 (.dnz nl.2))) (fun d s2 => Q d (s2.set nl.1 (.dn nl.2))) (fun _ _ => False) := by
  unfold mHeldFE
  cases heldFN ρ i f s with
  | none => simp only [wpO_none, wpR_none]
  | some nl =>
    obtain ⟨n, l⟩ := nl
    rw [wpO_some]
    dsimp only
    cases m ρ (s.set n (.dnz l)) with
    | none => simp only [wpR_none]
    | some x => cases x <;> simp only [wpR_ok, wpR_ex, wpR_none]
end
end MP


set_option Elab.async false
set_option linter.all false
set_option maxRecDepth 100000
set_option maxHeartbeats 8000000
/-! KT1: a table is made of names and squares that may stand twice, squares as tuples or lists -/
namespace MP
variable [Wd]
open PySem L2
/-- each once, in the order of the first times -/
def ddQ : List Sq → List Sq → List Sq
  | acc, [] => acc
  | acc, p :: r => ddQ (if p ∈ acc then acc else acc ++ [p]) r
theorem ddQ_nd : ∀ (r acc : List Sq), acc.Nodup → (ddQ acc r).Nodup
  | [], _, h => h
  | p :: r, acc, h => by
    rw [ddQ]
    refine ddQ_nd r _ ?_
    by_cases hp : p ∈ acc
    · rw [if_pos hp]; exact h
    · rw [if_neg hp, List.nodup_append]
      exact ⟨h, by simp, fun a ha b hb e => by
        rw [List.mem_singleton] at hb
        subst hb; subst e
        exact hp ha⟩
theorem ddQ_mem : ∀ (r acc : List Sq) (x : Sq), x ∈ ddQ acc r ↔ x ∈ acc ∨ x ∈ r
  | [], acc, x => by simp [ddQ]
  | p :: r, acc, x => by
    rw [ddQ, ddQ_mem r]
    by_cases hp : p ∈ acc
    · rw [if_pos hp, List.mem_cons]
      constructor
      · rintro (h | h)
        · exact .inl h
        · exact .inr (.inr h)
      · rintro (h | rfl | h)
        · exact .inl h
        · exact .inl hp
        · exact .inr h
    · rw [if_neg hp, List.mem_append, List.mem_singleton, List.mem_cons, or_assoc]
theorem modify_self {α : Type} {f : α → α} : ∀ {l : List α} (j : Nat), (∀ x ∈ l, f x = x) → l.modify j f = l
  | [], j, _ => by cases j <;> rfl
  | x :: l, 0, h => by rw [List.modify_zero_cons, h x List.mem_cons_self]
  | x :: l, j + 1, h => by rw [List.modify_succ_cons, modify_self j fun y hy => h y (List.mem_cons_of_mem _ hy)]
abbrev bkL (l : List Sq) : List (D × D) := l.map fun p => (sqD p, D.bl true)
theorem put_bk {p : Sq} {l : List Sq} : putNd (bkL l) (keyQ p) (sqD p) (.bl true) = bkL (if p ∈ l then l else l ++ [p]) := by
  by_cases hp : p ∈ l
  · rw [if_pos hp]
    have e := get_sq (f := fun _ => D.bl true) (p := p) (l := l)
    rw [if_pos hp] at e
    unfold putNd
    unfold getNd at e
    cases hj : placeD (bkL l) (keyQ p) with
    | none =>
      rw [show placeD (l.map fun p => (sqD p, D.bl true)) (keyQ p) = none from hj] at e
      cases e
    | some j =>
      refine modify_self j fun x hx => ?_
      obtain ⟨z, _, rfl⟩ := List.mem_map.mp hx
      rfl
  · rw [if_neg hp]
    exact put_sq (f := fun _ => D.bl true) hp
/-- a square, told as a tuple or as a list -/
inductive SqT (t : Sto) : D → Sq → Prop where
  | tup {p : Sq} : SqT t (sqD p) p
  | lst {p : Sq} : SqT t (.lst [.str p.1, .str p.2]) p
  | box {p : Sq} {k : Nat} (h : t[k]? = some (.lst [.str p.1, .str p.2])) : SqT t (.ref (k + 2)) p
theorem SqT.mono {t t' : Sto} {x : D} {p : Sq} (h : SqT t x p) (k : ∀ (i : Nat) (l : List D), t[i]? = some (.lst l) → t'[i]? = some (.lst l)) : SqT t' x p := by
  cases h with
  | tup => exact .tup
  | lst => exact .lst
  | box h => exact .box (k _ _ h)
section
variable {q : Sp0} {t : Sto} {Q : D → Sto → Prop} {E : XP}
theorem SqT.kd {x : D} {p : Sq} (h : SqT t x p) : (kdD (stm q t) x).bind (fB ["list", "tuple"]) = some true := by
  cases h with
  | tup => rfl
  | lst => rfl
  | box h =>
    unfold kdD
    dsimp only
    rw [stm_get, h]
    rfl
theorem SqT.items {x : D} {p : Sq} (h : SqT t x p) : items? (stm q t) x = some [.str p.1, .str p.2] := by
  cases h with
  | tup => rfl
  | lst => rfl
  | box h => exact items_stm h
theorem SqT.len {x : D} {p : Sq} (h : SqT t x p) : gLen (stm q t) [x] = some (.int 2) := by
  cases h with
  | tup => rfl
  | lst => rfl
  | box h => exact gLen_stm h
theorem SqT.i0 {x : D} {p : Sq} (h : SqT t x p) : fIx (stm q t) x (.int 0) = some (.str p.1) := by
  cases h with
  | tup => rfl
  | lst => rfl
  | box h => rw [fIx_stm h]; rfl
theorem SqT.i1 {x : D} {p : Sq} (h : SqT t x p) : fIx (stm q t) x (.int 1) = some (.str p.2) := by
  cases h with
  | tup => rfl
  | lst => rfl
  | box h => rw [fIx_stm h]; rfl
theorem knownT {P : Nat} {cs ws : List Str} {fs : List (Str × D)} {p : Sq} {x : D} (hP : t[P]? = some (.ins "Table" fs)) (h1 : fs.lookup (Str.ofString "cell_names") = some (.lst (cs.map .str))) (h2 : fs.lookup (Str.ofString "way_names") = some (.lst (ws.map .str))) (hx : SqT t x p) (hc : p.1 ∈ cs) (hw : p.2 ∈ ws) :
    c_Table_known_square [.ref (P + 2), x] (stm q t) = some (.ok (sqD p) (stm q t)) := by
  refine eq_wp ?_
  unfold c_Table_known_square
  refine wp_fn (by simp) ?_
  have e1 : p_is_list [x] (stm q t) = some (.ok (.bl true) (stm q t)) := is_list_kd hx.kd
  have n1 : ∀ s : Sto, fNotIn s (.str p.1) (.lst (cs.map .str)) = some (.bl false) := fun s => by rw [notin_strs, decide_eq_true hc]; rfl
  have n2 : ∀ s : Sto, fNotIn s (.str p.2) (.lst (ws.map .str)) = some (.bl false) := fun s => by rw [notin_strs, decide_eq_true hw]; rfl
  have i0 := hx.i0 (q := q)
  have i1 := hx.i1 (q := q)
  have e2 := hx.len (q := q)
  simp_all! [e1, e2, i0, i1, n1, n2, Bool.not_true, ins_stm hP, Option.bind_some, h1, h2, decide_true, Bool.not_true]
  exact ⟨by trivial, by trivial⟩
/-- names and squares as they are given -/
structure GivenQ (q : Sp0) (t : Sto) (P : Nat) (z : D) (sq : List Sq) : Prop where
  at_ : ∃ (zs : List D) (G : Sto → Prop), zs.length = sq.length ∧ Paired (SqT t) zs sq ∧ (∀ x ∈ zs, x ≠ .ref (P + 2)) ∧ ∀ o : Ob, seqOf (stm q (t.set P o)) z = some (zs, G) ∧ G (stm q (t.set P o))
theorem fold_things {ps : D → Sq} : ∀ {zs : List D} {l acc : List Sq}, Paired (fun x p => ps x = p) zs l → zs.foldl (fun m x => putNd m (keyQ (ps x)) (sqD (ps x)) (.bl true)) (bkL acc) = bkL (ddQ acc l)
  | _, _, _, .nil => rfl
  | _, _, acc, .cons h t => by
    subst h
    rw [List.foldl_cons, put_bk, fold_things t, ddQ]
theorem paired_get {α β : Type} {R : α → β → Prop} {a : α} : ∀ {as : List α} {bs : List β}, Paired R as bs → a ∈ as → ∃ b ∈ bs, R a b
  | _, _, .nil, h => nomatch h
  | _, _, .cons h t, hm => by
    rcases List.mem_cons.mp hm with rfl | hm
    · exact ⟨_, List.mem_cons_self, h⟩
    · obtain ⟨b, hb, h2⟩ := paired_get t hm
      exact ⟨b, List.mem_cons_of_mem _ hb, h2⟩
theorem wp_tableG {P : Nat} {x y z : D} {cs ws : List Str} {sq : List Sq} (hP : t[P]? = some (.ins "Table" []))
    (hx : Given q t P x (cs.map .str)) (hy : Given q t P y (ws.map .str)) (hz : GivenQ q t P z sq)
    (cl : cs.length ≤ 1000) (wl : ws.length ≤ 1000) (sl : sq.length ≤ 5000) (co : ∀ z ∈ cs, NameOk z) (wo : ∀ z ∈ ws, NameOk z) (sc : ∀ p ∈ sq, p.1 ∈ cs ∧ p.2 ∈ ws)
    (hQ : Q .non (stm q (t.set P (.ins "Table" (tabF (srt (ddS cs)) (srt (ddS ws)) (t.length + 2))) ++ [.dn (bkL (ddQ [] sq))]))) : wpR (c_Table_init [.ref (P + 2), x, y, z] (stm q t)) Q E := by
  unfold c_Table_init
  refine wp_fn (by simp) ?_
  have lt := (List.getElem?_eq_some_iff.mp hP).1
  have t0 : t = t.set P (.ins "Table" []) := by
    refine List.ext_getElem? fun i => ?_
    by_cases h : P = i
    · subst h; rw [List.getElem?_set_self lt]; exact hP
    · rw [List.getElem?_set_ne h]
  obtain ⟨G1, x0⟩ := hx
  obtain ⟨G2, y0⟩ := hy
  obtain ⟨zs, G3, zl, zp, zne, z0⟩ := hz.at_
  have x1 := x0 (.ins "Table" [])
  rw [← t0] at x1
  simp_all! [sorted_names_eq x1.1 x1.2.1 x1.2.2 cl co, fput?, ins_stm hP, Option.bind_some, put_1]
  rw [if_pos (by decide), wpO_some]
  obtain ⟨f1, hf1⟩ : ∃ f, f = Ob.ins "Table" [(Str.ofString "cell_names", .lst ((srt (ddS cs)).map .str))] := ⟨_, rfl⟩
  rw [stm_upd, ← hf1]
  have y1 := y0 f1
  have hP1 : (t.set P f1)[P]? = some (.ins "Table" [(Str.ofString "cell_names", .lst ((srt (ddS cs)).map .str))]) := by rw [List.getElem?_set_self lt, hf1]
  simp_all! [sorted_names_eq y1.1 y1.2.1 y1.2.2 wl wo, fput?, ins_stm hP1, Option.bind_some, put_2]
  rw [if_pos (by decide), wpO_some, stm_upd, List.set_set]
  obtain ⟨f2, hf2⟩ : ∃ f, f = Ob.ins "Table" [(Str.ofString "cell_names", .lst ((srt (ddS cs)).map .str)), (Str.ofString "way_names", .lst ((srt (ddS ws)).map .str))] := ⟨_, rfl⟩
  rw [← hf2]
  have z1 := z0 f2
  have hP2 : (t.set P f2)[P]? = some (.ins "Table" [(Str.ofString "cell_names", .lst ((srt (ddS cs)).map .str)), (Str.ofString "way_names", .lst ((srt (ddS ws)).map .str))]) := by rw [List.getElem?_set_self lt, hf2]
  simp_all! [z1.1]
  refine wpI_intro (by omega) ?_
  have memc : ∀ {l : List Str} {a : Str}, a ∈ l → a ∈ srt (ddS l) := fun h => (srt_perm _).mem_iff.mpr ((ddS_mem _ _).mpr h)
  have keep : ∀ {x : D} {p : Sq}, SqT t x p → x ≠ .ref (P + 2) → SqT (t.set P f2) x p := fun h hn => by
    cases h with
    | tup => exact .tup
    | lst => exact .lst
    | @box p k h =>
      refine .box ?_
      rw [List.getElem?_set_ne (fun e => hn (by rw [e]))]
      exact h
  obtain ⟨ps, hps⟩ : ∃ ps : D → Sq, ∀ x p, SqT t x p → ps x = p := by
    refine ⟨fun x => match items? (stm q t) x with
      | some [.str a, .str b] => (a, b)
      | _ => ("", ""), fun x p h => ?_⟩
    dsimp only
    rw [h.items (q := q)]
  have zq : Paired (fun x p => ps x = p) zs sq := Paired.mapP zp fun x p h => hps x p h
  rw [ndL_pureG z1.2 (fun d => (keyQ (ps d), sqD (ps d), .bl true)) (fun d hd => ?_)]
  · walk_at "wu"
    rw [show zs.foldl (fun l d => putNd l (keyQ (ps d), sqD (ps d), D.bl true).1 (keyQ (ps d), sqD (ps d), D.bl true).2.1 (keyQ (ps d), sqD (ps d), D.bl true).2.2) [] = bkL (ddQ [] sq) from fold_things (acc := []) zq]
    have hP3 : (t.set P f2 ++ [.dn (bkL (ddQ [] sq))])[P]? = some (.ins "Table" [(Str.ofString "cell_names", .lst ((srt (ddS cs)).map .str)), (Str.ofString "way_names", .lst ((srt (ddS ws)).map .str))]) := by rw [List.getElem?_append_left (by rw [List.length_set]; exact lt)]; exact hP2
    simp_all! [fput?, ins_stm hP3, Option.bind_some, put_3]
    rw [if_pos (by decide), wpO_some, stm_upd, List.length_set, List.set_append_left _ _ (by rw [List.length_set]; exact lt), List.set_set]
    exact hQ
  · obtain ⟨p, hp, hd2⟩ := paired_get zp hd
    obtain ⟨p1, p2⟩ := sc p hp
    have ep := hps d p hd2
    refine ⟨_, rfl, rfl, eq_wp ?_, rfl, nk_sq _⟩
    have kn := knownT (q := q) (p := p) hP2 rfl rfl (keep hd2 (zne d hd)) (memc p1) (memc p2)
    rw [ep]
    simp_all! [ins_stm hP2, kn]
    refine wpI_intro (by rfl) ?_
    simp_all! [ins_stm hP2, kn]
    exact ⟨by trivial, by trivial⟩
end
end MP


set_option Elab.async false
set_option linter.all false
set_option maxRecDepth 100000
set_option maxHeartbeats 8000000
/-! KT2: a table in the store beside the sorted list of its squares; what it tells -/
namespace MP
variable [Wd]
open PySem L2
structure Gr (cs ws : List Str) : Prop where
  g : Grid cs ws
  s1 : srt cs = cs
  s2 : srt ws = ws
structure TabM (t : Sto) (P b : Nat) (cs ws : List Str) (m : List Sq) : Prop where
  at_ : ∃ sq, t[P]? = some (.ins "Table" (tabF cs ws (b + 2))) ∧ t[b]? = some (.dn (bkL sq)) ∧ sq.Nodup ∧ ∀ x, x ∈ sq ↔ x ∈ m
  ok : SqOk cs ws m
theorem perm_of {a b : List Sq} (h1 : a.Nodup) (h2 : b.Nodup) (h : ∀ x, x ∈ a ↔ x ∈ b) : a.Perm b := (List.perm_ext_iff_of_nodup h1 h2).mpr h
theorem same_of {cs ws : List Str} {sq m : List Sq} (h1 : sq.Nodup) (h2 : SqOk cs ws m) (h : ∀ x, x ∈ sq ↔ x ∈ m) : srtQ sq = m := srtQ_uniq (perm_of h1 h2.nd h) h2.pw
def sqOf : D → Sq
  | .tup [.str a, .str b] => (a, b)
  | _ => ("", "")
theorem sqOf_eq (p : Sq) : sqOf (sqD p) = p := rfl
theorem Gr.strQ {cs ws : List Str} {m : List Sq} (g : Gr cs ws) (h : SqOk cs ws m) : ∀ p ∈ m, StrQ p := fun p hp => ⟨(g.g.co _ (h.sub p hp).1).str, (g.g.wo _ (h.sub p hp).2).str⟩
theorem fEq_sq {s : Sto} {a b : Sq} (ha : StrQ a) (hb : StrQ b) : fEq s (sqD a) (sqD b) = some (.bl (decide (a = b))) := by
  unfold fEq eqD
  rw [show pyS s (sqD a) = some (sqP a) from rfl, show pyS s (sqD b) = some (sqP b) from rfl]
  dsimp only
  rw [shaped_sq ha, shaped_sq hb, if_pos (by rfl), eqv_sq]
  rfl
section
variable {q : Sp0} {t : Sto} {Q : D → Sto → Prop} {E : XP} {P b P2 b2 : Nat} {cs ws cs2 ws2 : List Str} {m m2 : List Sq}
theorem TabM.tab (h : TabM t P b cs ws m) : ∃ sq, TabAt t P cs ws sq ∧ srtQ sq = m ∧ sq.Nodup ∧ (∀ x, x ∈ sq ↔ x ∈ m) := by
  obtain ⟨sq, h1, h2, h3, h4⟩ := h.at_
  exact ⟨sq, ⟨⟨b, h1, h2⟩⟩, same_of h3 h.ok h4, h3, h4⟩
theorem TabM.ins (h : TabM t P b cs ws m) : t[P]? = some (.ins "Table" (tabF cs ws (b + 2))) := let ⟨_, h1, _⟩ := h.at_; h1
theorem TabM.insE (h : TabM t P b cs ws m) : ins? (stm q t) "Table" (.ref (P + 2)) = some (P + 2, tabF cs ws (b + 2)) := ins_stm h.ins
theorem TabM.mono {t' : Sto} (h : TabM t P b cs ws m) (h1 : t'[P]? = t[P]?) (h2 : t'[b]? = t[b]?) : TabM t' P b cs ws m := by
  obtain ⟨sq, a1, a2, a3, a4⟩ := h.at_
  exact ⟨⟨sq, by rw [h1]; exact a1, by rw [h2]; exact a2, a3, a4⟩, h.ok⟩
theorem cells_M (h : TabM t P b cs ws m) : c_Table_cells [.ref (P + 2)] (stm q t) = some (.ok (.lst (cs.map .str)) (stm q t)) := by
  obtain ⟨sq, h1, _⟩ := h.tab
  exact tab_cells h1
theorem ways_M (h : TabM t P b cs ws m) : c_Table_ways [.ref (P + 2)] (stm q t) = some (.ok (.lst (ws.map .str)) (stm q t)) := by
  obtain ⟨sq, h1, _⟩ := h.tab
  exact tab_ways h1
theorem squares_M (h : TabM t P b cs ws m) : c_Table_squares [.ref (P + 2)] (stm q t) = some (.ok (.lst (m.map sqD)) (stm q t)) := by
  obtain ⟨sq, h1, h2, _⟩ := h.tab
  rw [← h2]
  exact tab_squares h1
theorem fld_cn : (tabF cs ws (b + 2)).lookup (Str.ofString "cell_names") = some (.lst (cs.map .str)) := rfl
theorem fld_wn : (tabF cs ws (b + 2)).lookup (Str.ofString "way_names") = some (.lst (ws.map .str)) := rfl
theorem fld_bk : (tabF cs ws (b + 2)).lookup (Str.ofString "back") = some (.ref (b + 2)) := rfl
theorem len_M (h : TabM t P b cs ws m) : c_Table_len [.ref (P + 2)] (stm q t) = some (.ok (.int m.length) (stm q t)) := by
  obtain ⟨sq, h1, h2, h3, h4⟩ := h.at_
  refine eq_wp ?_
  unfold c_Table_len
  refine wp_fn (by simp) ?_
  have e : gLenN (stm q t) [.ref (b + 2)] = some (.int m.length) := by
    unfold gLenN
    dsimp only
    rw [nd_stm h2, Option.map_some, List.length_map, (perm_of h3 h.ok.nd h4).length_eq]
  simp_all! [ins_stm h1, Option.bind_some, fld_bk (cs := cs) (ws := ws), e]
  exact ⟨by trivial, by trivial⟩
theorem item_M {x : D} {p : Sq} (h : TabM t P b cs ws m) (hx : SqT t x p) (hc : p.1 ∈ cs) (hw : p.2 ∈ ws) : c_Table_getitem [.ref (P + 2), x] (stm q t) = some (.ok (.bl (decide (p ∈ m))) (stm q t)) := by
  obtain ⟨sq, h1, h2, h3, h4⟩ := h.at_
  refine eq_wp ?_
  unfold c_Table_getitem
  refine wp_fn (by simp) ?_
  have kn := knownT (q := q) h1 (cs := cs) (ws := ws) rfl rfl hx hc hw
  simp_all! [ins_stm h1]
  refine wpI_intro (by rfl) ?_
  simp_all! [kn, ins_stm h1, Option.bind_some, fld_bk (cs := cs) (ws := ws), nq_stm (q := q) (p := p) h2 rfl]
  have hm := h4 p
  by_cases hp : p ∈ sq
  · rw [if_pos hp, decide_eq_true (hm.mp hp)]; exact ⟨by trivial, by trivial⟩
  · rw [if_neg hp, decide_eq_false (fun z => hp (hm.mpr z))]; exact ⟨by trivial, by trivial⟩
theorem check_M (h : TabM t P b cs ws m) (h2 : TabM t P2 b2 cs ws m2) (g : Gr cs ws) : c_Table_check [.ref (P + 2), .ref (P2 + 2)] (stm q t) = some (.ok .non (stm q t)) := by
  refine eq_wp ?_
  unfold c_Table_check
  refine wp_fn (by simp) ?_
  have ne : ∀ {l : List Str} (s : Sto), (∀ z ∈ l, PyData.strOk z = true) → fNe s (.lst (l.map .str)) (.lst (l.map .str)) = some (.bl false) := fun {l} s hl => by
    have e := fEq_strs (s := s) hl
    unfold fEq at e
    unfold fNe
    cases hq : eqD s (.lst (l.map .str)) (.lst (l.map .str)) with
    | none => rw [hq] at e; cases e
    | some k =>
      rw [hq] at e
      cases k with
      | true => rfl
      | false => cases e
  have e1 := ne (stm q t) fun z hz => (g.g.co z hz).str
  have e2 := ne (stm q t) fun z hz => (g.g.wo z hz).str
  simp_all! [ins_stm h.ins, ins_stm h2.ins, Option.bind_some, fld_cn (cs := cs) (ws := ws), fld_wn (cs := cs) (ws := ws), e1, e2]
  exact ⟨by trivial, by trivial⟩
/-- the walk over the dict of a table: nothing changes -/
theorem wp_overB {α : Sq → Bool} {elt : ME} {ρ : Env} {vs : List Nat} {i : Nat} (h1 : t[P]? = some (.ins "Table" (tabF cs ws (b + 2)))) {sq : List Sq} (h2 : t[b]? = some (.dn (bkL sq))) (hl : sq.length ≤ 16777216)
    (hρ : ρ[0]? = some (some (.ref (P + 2)))) (hw : (wipeE ρ vs).length = ρ.length) (hi : i < ρ.length)
    (he : ∀ p ∈ sq, wpR (elt ((wipeE ρ vs).set i (some (sqD p))) (stm q (t.set b (.dnz (bkL sq))))) (fun d s => d = .bl (α p) ∧ s = stm q (t.set b (.dnz (bkL sq)))) (fun _ _ => False))
    (hQ : Q (.lst (sq.map fun p => .bl (α p))) (stm q t)) :
    wpR (mHeldFE 0 "back" (mLc (miKeysN (mFld "Table" "back" (mVar 0))) vs (gmName i) (mYes) elt) ρ (stm q t)) Q E := by
  have hb : b ≠ P := fun e => by subst e; rw [h1] at h2; cases h2
  have hlt := (List.getElem?_eq_some_iff.mp h2).1
  have eh : heldFN ρ 0 "back" (stm q t) = some (b + 2, bkL sq) := by
    unfold heldFN
    rw [hρ]
    dsimp only
    rw [stm_get, h1]
    dsimp only
    rw [show (tabF cs ws (b + 2)).lookup (Str.ofString "back") = some (.ref (b + 2)) from rfl]
    dsimp only
    rw [stm_get, h2]
  rw [wp_mHeldFE, eh, wpO_some]
  dsimp only
  rw [stm_upd]
  have h1' : (t.set b (.dnz (bkL sq)))[P]? = some (.ins "Table" (tabF cs ws (b + 2))) := by rw [List.getElem?_set_ne hb]; exact h1
  have h2' : (t.set b (.dnz (bkL sq)))[b]? = some (.dnz (bkL sq)) := List.getElem?_set_self hlt
  have ez : ndz? (stm q (t.set b (.dnz (bkL sq)))) (.ref (b + 2)) = some (bkL sq) := by
    unfold ndz?
    dsimp only
    rw [stm_get, h2']
  rw [wp_mLc]
  simp_all! [wp_miKeysN, hρ, ins_stm h1', Option.bind_some, fld_bk (cs := cs) (ws := ws), ez]
  refine wpI_intro (by rw [List.length_map, List.length_map]; exact hl) ?_
  rw [lcL_pureG (by trivial) (fun d => some (.bl (α (sqOf d)))) (fun d hd => ?_)]
  · rw [wpR_ok, stm_upd, List.set_set]
    have e1 : ((bkL sq).map (·.1)).filterMap (fun d => some (D.bl (α (sqOf d)))) = sq.map fun p => D.bl (α p) := by
      rw [List.map_map]
      generalize sq = l
      induction l with
      | nil => rfl
      | cons p l ih => rw [List.map_cons, List.filterMap_cons]; dsimp only [Function.comp]; rw [ih, sqOf_eq, List.map_cons]
    have e2 : t.set b (.dn (bkL sq)) = t := by
      refine List.ext_getElem? fun j => ?_
      by_cases hj : b = j
      · subst hj; rw [List.getElem?_set_self hlt]; exact h2.symm
      · rw [List.getElem?_set_ne hj]
    rw [e1, e2]
    exact hQ
  · rw [List.map_map] at hd
    obtain ⟨p, hp, rfl⟩ := List.mem_map.mp hd
    refine ⟨(wipeE ρ vs).set i (some (sqD p)), ?_, rfl, eq_wp (he p hp)⟩
    unfold gmName
    rfl
theorem within_M (h : TabM t P b cs ws m) (h' : TabM t P2 b2 cs ws m2) (g : Gr cs ws) : c_Table_within [.ref (P + 2), .ref (P2 + 2)] (stm q t) = some (.ok (.bl (m.all fun p => decide (p ∈ m2))) (stm q t)) := by
  obtain ⟨sq, h1, h2, h3, h4⟩ := h.at_
  obtain ⟨sq2, k1, k2, k3, k4⟩ := h'.at_
  refine eq_wp ?_
  unfold c_Table_within
  refine wp_fn (by simp) ?_
  have hb : b ≠ P2 := fun e => by subst e; rw [k1] at h2; cases h2
  have hlt := (List.getElem?_eq_some_iff.mp h2).1
  simp_all! [ins_stm h1]
  refine wpI_intro (by rfl) ?_
  simp_all! [check_M (q := q) h h' g]
  refine wp_overB (α := fun p => decide (p ∈ sq2)) h1 h2 (by have := (perm_of h3 h.ok.nd h4).length_eq; have := h.ok.len; have a := g.g.cl; have c := g.g.wl; have : cs.length * ws.length ≤ 3 * 4 := Nat.mul_le_mul a c; omega) rfl rfl (by simp) (fun p hp => ?_) ?_
  · have k1' : (t.set b (.dnz (bkL sq)))[P2]? = some (.ins "Table" (tabF cs ws (b2 + 2))) := by rw [List.getElem?_set_ne hb]; exact k1
    have en : nd? (stm q (t.set b (.dnz (bkL sq)))) (.ref (b2 + 2)) = some (bkL sq2) := by
      unfold nd?
      dsimp only
      rw [stm_get]
      by_cases e : b = b2
      · subst e
        rw [k2] at h2
        have : bkL sq2 = bkL sq := by injection h2 with h2; injection h2
        rw [List.getElem?_set_self hlt, this]
      · rw [List.getElem?_set_ne e, k2]
    have eq' : nq? (stm q (t.set b (.dnz (bkL sq)))) (.ref (b2 + 2)) (sqD p) = some (if p ∈ sq2 then some (.bl true) else none) := by
      unfold nq?
      rw [en, Option.bind_some, nk_sq, Option.map_some, get_sq (f := fun _ => D.bl true)]
    simp_all! [ins_stm k1', Option.bind_some, fld_bk (cs := cs) (ws := ws), eq']
    by_cases hp2 : p ∈ sq2
    · rw [if_pos hp2, decide_eq_true hp2]; exact ⟨by trivial, by trivial⟩
    · rw [if_neg hp2, decide_eq_false hp2]; exact ⟨by trivial, by trivial⟩
  · simp_all! [gAll_map]
    refine ⟨?_, by trivial⟩
    congr 1
    rw [Bool.eq_iff_iff, List.all_eq_true, List.all_eq_true]
    simp only [decide_eq_true_eq, h4, k4]
theorem has_M {x : D} {p : Sq} (h : TabM t P b cs ws m) (g : Gr cs ws) (hx : SqT t x p) (hp : StrQ p) : c_Table_contains [.ref (P + 2), x] (stm q t) = some (.ok (.bl (decide (p ∈ m))) (stm q t)) := by
  obtain ⟨sq, h1, h2, h3, h4⟩ := h.at_
  refine eq_wp ?_
  unfold c_Table_contains
  refine wp_fn (by simp) ?_
  have e1 : p_is_list [x] (stm q t) = some (.ok (.bl true) (stm q t)) := is_list_kd hx.kd
  simp_all! [e1]
  refine wp_overB (α := fun r => decide (p = r)) h1 h2 (by have := (perm_of h3 h.ok.nd h4).length_eq; have := h.ok.len; have a := g.g.cl; have c := g.g.wl; have : cs.length * ws.length ≤ 3 * 4 := Nat.mul_le_mul a c; omega) rfl rfl (by simp) (fun r hr => ?_) ?_
  · have hx' : SqT (t.set b (.dnz (bkL sq))) x p := hx.mono fun i l hi => by
      rw [List.getElem?_set_ne (fun e => by subst e; rw [h2] at hi; cases hi)]
      exact hi
    have hxi := hx'.items (q := q)
    have et : gTuple (stm q (t.set b (.dnz (bkL sq)))) [x] = some (sqD p) := by
      cases hx' with
      | tup => rfl
      | lst => rfl
      | box h =>
        unfold gTuple
        dsimp only
        rw [hxi]
        rfl
    have hr' : StrQ r := g.strQ h.ok r ((h4 r).mp hr)
    simp_all! [et, fEq_sq (s := stm q (t.set b (.dnz (bkL sq)))) hp hr']
    exact ⟨by trivial, by trivial⟩
  · simp_all! [gAny_map]
    refine ⟨?_, by trivial⟩
    congr 1
    rw [Bool.eq_iff_iff, List.any_eq_true, decide_eq_true_eq, ← h4]
    constructor
    · rintro ⟨r, hr, e⟩
      rw [of_decide_eq_true e]
      exact hr
    · exact fun hp => ⟨p, hp, decide_eq_true rfl⟩
end
end MP


set_option Elab.async false
set_option linter.all false
set_option maxRecDepth 100000
set_option maxHeartbeats 8000000
/-! KT3: new tables; the signs; squares put in and taken out -/
namespace MP
variable [Wd]
open PySem L2
/-- what a sign makes of two lists -/
noncomputable def uni : Nat → List Sq → List Sq → List Sq
  | 0, a, b => srtQ (a ++ b.filter fun x => !decide (x ∈ a))
  | 1, a, b => a.filter fun x => decide (x ∈ b)
  | 2, a, b => a.filter fun x => !decide (x ∈ b)
  | _, a, b => srtQ ((a.filter fun x => !decide (x ∈ b)) ++ (b.filter fun x => !decide (x ∈ a)).filter fun x => !decide (x ∈ a.filter fun x => !decide (x ∈ b)))
def uniP : Nat → Prop → Prop → Prop
  | 0, a, b => a ∨ b
  | 1, a, b => a ∧ b
  | 2, a, b => a ∧ ¬b
  | _, a, b => (a ∧ ¬b) ∨ (b ∧ ¬a)
section
variable {cs ws : List Str} {a b : List Sq}
theorem or_ok (h1 : SqOk cs ws a) (h2 : SqOk cs ws b) : SqOk cs ws (srtQ (a ++ b.filter fun x => !decide (x ∈ a))) ∧ ∀ x, x ∈ srtQ (a ++ b.filter fun x => !decide (x ∈ a)) ↔ x ∈ a ∨ x ∈ b := by
  have hm : ∀ x, x ∈ a ++ b.filter (fun x => !decide (x ∈ a)) ↔ x ∈ a ∨ x ∈ b := fun x => by
    rw [List.mem_append, List.mem_filter]
    simp only [Bool.not_eq_true', decide_eq_false_iff_not]
    constructor
    · rintro (h | h)
      · exact .inl h
      · exact .inr h.1
    · intro h
      by_cases hx : x ∈ a
      · exact .inl hx
      · exact .inr ⟨h.resolve_left hx, hx⟩
  refine ⟨SqOk.of_perm ?_ fun p hp => ?_, fun x => by rw [(srtQ_perm _).mem_iff, hm]⟩
  · rw [List.nodup_append]
    refine ⟨h1.nd, h2.nd.filter _, fun x hx y hy e => ?_⟩
    subst e
    have := (List.mem_filter.mp hy).2
    simp [hx] at this
  · rcases (hm p).mp hp with h | h
    · exact h1.sub p h
    · exact h2.sub p h
theorem uni_ok : ∀ (w : Nat) {a b : List Sq}, SqOk cs ws a → SqOk cs ws b → SqOk cs ws (uni w a b) ∧ ∀ x, x ∈ uni w a b ↔ uniP w (x ∈ a) (x ∈ b)
  | 0, a, b, h1, h2 => or_ok h1 h2
  | 1, a, b, h1, h2 => ⟨h1.sublist List.filter_sublist, fun x => by show x ∈ a.filter _ ↔ _; rw [List.mem_filter]; simp [uniP]⟩
  | 2, a, b, h1, h2 => ⟨h1.sublist List.filter_sublist, fun x => by show x ∈ a.filter _ ↔ _; rw [List.mem_filter]; simp [uniP]⟩
  | w + 3, a, b, h1, h2 => by
    have k1 : SqOk cs ws (a.filter fun x => !decide (x ∈ b)) := h1.sublist List.filter_sublist
    have k2 : SqOk cs ws (b.filter fun x => !decide (x ∈ a)) := h2.sublist List.filter_sublist
    obtain ⟨o1, o2⟩ := or_ok k1 k2
    refine ⟨o1, fun x => ?_⟩
    rw [show uni (w + 3) a b = srtQ ((a.filter fun x => !decide (x ∈ b)) ++ (b.filter fun x => !decide (x ∈ a)).filter fun x => !decide (x ∈ a.filter fun x => !decide (x ∈ b))) from rfl, o2, List.mem_filter, List.mem_filter]
    simp [uniP]
end
theorem era_bk {p : Sq} : ∀ l : List Sq, eraNd (bkL l) (keyQ p) = bkL (l.erase p)
  | [] => rfl
  | a :: l => by
    have ih := era_bk (p := p) l
    unfold eraNd placeD at ih ⊢
    rw [show bkL (a :: l) = (sqD a, D.bl true) :: bkL l from rfl, List.findIdx?_cons]
    dsimp only
    rw [keyN_sq]
    by_cases h : a = p
    · subst h
      rw [decide_eq_true rfl, if_pos rfl, List.erase_cons_head]
      rfl
    · have hk : (some (keyQ a) = some (keyQ p)) = False := eq_false fun e => h (keyQ_inj (Option.some.inj e))
      rw [decide_eq_false (by rw [hk]; exact id), if_neg (by simp), List.erase_cons_tail (by simpa using h), show bkL (a :: l.erase p) = (sqD a, D.bl true) :: bkL (l.erase p) from rfl, ← ih]
      cases (bkL l).findIdx? fun q => decide (keyN q.1 = some (keyQ p)) with
      | none => rfl
      | some j => rfl
section
variable {q : Sp0} {t : Sto} {Q : D → Sto → Prop} {E : XP} {P b P2 b2 : Nat} {cs ws : List Str} {m m2 : List Sq}
theorem srt_dd {l : List Str} (h : l.Nodup) : srt (ddS l) = srt l := srt_congr (dd_perm h)
/-- a new table -/
theorem wp_mkT {R : Sto → Prop} {x y z : D} {xs ys : List Str} {zs : List Sq} (hx : Given q (t ++ [.ins "Table" []]) t.length x (xs.map .str)) (hy : Given q (t ++ [.ins "Table" []]) t.length y (ys.map .str)) (hz : GivenQ q (t ++ [.ins "Table" []]) t.length z zs) (ex : srt (ddS xs) = cs) (ey : srt (ddS ys) = ws)
    (cl : xs.length ≤ 1000) (wl : ys.length ≤ 1000) (sl : zs.length ≤ 5000) (co : ∀ z ∈ xs, NameOk z) (wo : ∀ z ∈ ys, NameOk z) (sc : ∀ p ∈ zs, p.1 ∈ xs ∧ p.2 ∈ ys)
    (hR : ∀ o1 o2 : Ob, TabM (t ++ [o1, o2]) t.length (t.length + 1) cs ws (srtQ (ddQ [] zs)) → R (stm q (t ++ [o1, o2]))) : wpR (c_Table_init [.ref (t.length + 2), x, y, z] (stm q (t ++ [.ins "Table" []]))) (fun d s' => wpI (isNon d) (R s')) E := by
  have memc : ∀ {l : List Str} {a : Str}, a ∈ l → a ∈ srt (ddS l) := fun h => (srt_perm _).mem_iff.mpr ((ddS_mem _ _).mpr h)
  refine wp_tableG (by simp) hx hy hz cl wl sl co wo sc ?_
  rw [ex, ey]
  have e : (t ++ [Ob.ins "Table" []]).set t.length (.ins "Table" (tabF cs ws ((t ++ [Ob.ins "Table" []]).length + 2))) ++ [.dn (bkL (ddQ [] zs))] = t ++ [.ins "Table" (tabF cs ws (t.length + 1 + 2)), .dn (bkL (ddQ [] zs))] := by
    rw [List.set_append_right _ _ (Nat.le_refl _), Nat.sub_self, List.append_assoc, List.length_append]
    rfl
  rw [e, isNon_non, wpI_true]
  refine hR _ _ ⟨⟨ddQ [] zs, by simp, by rw [List.getElem?_append_right (by omega)]; simp, ddQ_nd _ _ .nil, fun x => ((srtQ_perm _).mem_iff).symm⟩, SqOk.of_perm (ddQ_nd _ _ .nil) fun p hp => ?_⟩
  have hp := ((ddQ_mem zs [] p).mp hp).resolve_left (by simp)
  obtain ⟨a1, a2⟩ := sc p hp
  exact ⟨by rw [← ex]; exact memc a1, by rw [← ey]; exact memc a2⟩
theorem givenQ_lst {P : Nat} {zs : List Sq} : GivenQ q t P (.lst (zs.map sqD)) zs := ⟨⟨zs.map sqD, any_, by simp, by
  induction zs with
  | nil => exact .nil
  | cons p l ih => exact .cons .tup ih, fun x hx => by obtain ⟨p, _, rfl⟩ := List.mem_map.mp hx; exact fun e => (nomatch e), fun o => ⟨rfl, trivial⟩⟩⟩
theorem wp_other {zs : List Sq} (h : TabM t P b cs ws m) (g : Gr cs ws) (sc : ∀ p ∈ zs, p.1 ∈ cs ∧ p.2 ∈ ws) (sl : zs.length ≤ 5000) (hQ : ∀ (o1 o2 : Ob), TabM (t ++ [o1, o2]) t.length (t.length + 1) cs ws (srtQ (ddQ [] zs)) → Q (.ref (t.length + 2)) (stm q (t ++ [o1, o2]))) : wpR (c_Table_other_table [.ref (P + 2), .lst (zs.map sqD)] (stm q t)) Q E := by
  unfold c_Table_other_table
  refine wp_fn (by simp) ?_
  have hc := g.g.cl
  have hw := g.g.wl
  simp_all! [ins_stm h.ins, Option.bind_some, fld_cn (cs := cs) (ws := ws), fld_wn (cs := cs) (ws := ws), stm_len, stm_app]
  exact wp_mkT given_lst given_lst givenQ_lst (by rw [srt_dd g.g.cn, g.s1]) (by rw [srt_dd g.g.wn, g.s2]) (by omega) (by omega) sl g.g.co g.g.wo sc fun o1 o2 T => hQ o1 o2 T
structure Gw (t t' : Sto) : Prop where
  len : t.length ≤ t'.length
  at_ : ∀ i, i < t.length → t'[i]? = t[i]?
theorem Gw.refl {t : Sto} : Gw t t := ⟨Nat.le_refl _, fun _ _ => rfl⟩
theorem Gw.app {t u : Sto} : Gw t (t ++ u) := ⟨by simp, fun i h => List.getElem?_append_left h⟩
theorem Gw.trans {a b c : Sto} (h : Gw a b) (g : Gw b c) : Gw a c := ⟨Nat.le_trans h.len g.len, fun i hi => (g.at_ i (Nat.lt_of_lt_of_le hi h.len)).trans (h.at_ i hi)⟩
theorem Gw.keep {t t' : Sto} (h : Gw t t') {i : Nat} {o : Ob} (e : t[i]? = some o) : t'[i]? = some o := (h.at_ i (List.getElem?_eq_some_iff.mp e).1).trans e
/-- a new table behind all that stood before -/
def NewT (t : Sto) (cs ws : List Str) (m : List Sq) (q : Sp0) (Q : D → Sto → Prop) : Prop := ∀ (t' : Sto) (P' : Nat), Gw t t' → t.length ≤ P' → TabM t' P' (P' + 1) cs ws m → Q (.ref (P' + 2)) (stm q t')
theorem NewT.of {zs : List Sq} {o1 o2 : Ob} (h : NewT t cs ws m q Q) (T : TabM (t ++ [o1, o2]) t.length (t.length + 1) cs ws (srtQ (ddQ [] zs))) (hm : SqOk cs ws m) (e : ∀ x, x ∈ zs ↔ x ∈ m) : Q (.ref (t.length + 2)) (stm q (t ++ [o1, o2])) := by
  have em : srtQ (ddQ [] zs) = m := same_of (ddQ_nd _ _ .nil) hm fun x => by rw [ddQ_mem, ← e]; simp
  rw [em] at T
  exact h _ _ Gw.app (Nat.le_refl _) T
theorem TabM.len12 (h : TabM t P b cs ws m) (g : Gr cs ws) : m.length ≤ 12 := by
  have := h.ok.len
  have a := g.g.cl
  have c := g.g.wl
  have : cs.length * ws.length ≤ 3 * 4 := Nat.mul_le_mul a c
  omega
theorem wp_twin (h : TabM t P b cs ws m) (g : Gr cs ws) (hQ : NewT t cs ws m q Q) : wpR (c_Table_twin [.ref (P + 2)] (stm q t)) Q E := by
  unfold c_Table_twin
  refine wp_fn (by simp) ?_
  simp_all! [ins_stm h.ins]
  refine wpI_intro (by rfl) ?_
  simp_all! [ins_stm h.ins]
  refine wpI_intro (by rfl) ?_
  simp_all! [squares_M (q := q) h]
  exact wp_other h g h.ok.sub (by have := h.len12 g; omega) fun o1 o2 T => hQ.of T h.ok fun _ => Iff.rfl
theorem wp_or (h : TabM t P b cs ws m) (h2 : TabM t P2 b2 cs ws m2) (g : Gr cs ws) (hQ : NewT t cs ws (uni 0 m m2) q Q) : wpR (c_Table_or [.ref (P + 2), .ref (P2 + 2)] (stm q t)) Q E := by
  unfold c_Table_or
  refine wp_fn (by simp) ?_
  have l1 := h.len12 g
  have l2 := h2.len12 g
  obtain ⟨u1, u2⟩ := uni_ok 0 h.ok h2.ok
  simp_all! [ins_stm h.ins]
  refine wpI_intro (by rfl) ?_
  simp_all! [check_M (q := q) h h2 g, ins_stm h.ins]
  refine wpI_intro (by rfl) ?_
  simp_all! [ins_stm h.ins]
  refine wpI_intro (by rfl) ?_
  simp_all! [squares_M (q := q) h, ins_stm h2.ins]
  refine wpI_intro (by rfl) ?_
  simp_all! [squares_M (q := q) h2]
  rw [fAdd_lst, if_pos (by rw [List.length_map, List.length_map]; omega), ← List.map_append]
  walk_at "wu"
  refine wp_other h g (fun p hp => ?_) (by rw [List.length_append]; omega) fun o1 o2 T => hQ.of T u1 fun x => by rw [u2]; exact List.mem_append
  rcases List.mem_append.mp hp with hp | hp
  · exact h.ok.sub p hp
  · exact h2.ok.sub p hp
theorem wp_pick2 {neg : Bool} (h : TabM t P b cs ws m) (h2 : TabM t P2 b2 cs ws m2) {c : MT} {ρ : Env} (hc : ∀ p ∈ m, wpR (c (ρ.set 2 (some (sqD p))) (stm q t)) (fun k s => k = (neg ^^ decide (p ∈ m2)) ∧ s = stm q t) (fun _ _ => False)) (hv : ρ.length = 3) :
    lcL any_ (gmName 2) c (mVar 2) ρ (m.map sqD) (stm q t) = some (.ok ((m.filter fun p => neg ^^ decide (p ∈ m2)).map sqD) (stm q t)) := by
  rw [lcL_pureG (by trivial) (fun d => if neg ^^ decide (sqOf d ∈ m2) then some d else none) (fun d hd => ?_)]
  · congr 2
    generalize m = l
    induction l with
    | nil => rfl
    | cons p l ih =>
      rw [List.map_cons, List.filterMap_cons, List.filter_cons, sqOf_eq]
      cases neg ^^ decide (p ∈ m2) with
      | true => simp only [if_true, List.map_cons, ih]
      | false => simp only [Bool.false_eq_true, if_false, ih]
  · obtain ⟨p, hp, rfl⟩ := List.mem_map.mp hd
    refine ⟨ρ.set 2 (some (sqD p)), by unfold gmName; rfl, ?_⟩
    have e := eq_wpT (hc p hp)
    rw [sqOf_eq]
    have hl := hv
    cases hk : neg ^^ decide (p ∈ m2) with
    | true =>
      rw [hk] at e
      refine ⟨e, ?_⟩
      unfold mVar
      rw [List.getElem?_set_self (by rw [hl]; decide)]
    | false =>
      rw [hk] at e
      exact e
theorem nqM {p : Sq} (h2 : TabM t P2 b2 cs ws m2) : (nq? (stm q t) (.ref (b2 + 2)) (sqD p)).map Option.isSome = some (decide (p ∈ m2)) := by
  obtain ⟨sq, k1, k2, k3, k4⟩ := h2.at_
  rw [nq_stm (q := q) (p := p) k2 rfl, Option.map_some]
  have := k4 p
  by_cases hp : p ∈ sq
  · rw [if_pos hp, decide_eq_true (this.mp hp)]; rfl
  · rw [if_neg hp, decide_eq_false fun z => hp (this.mpr z)]; rfl
theorem wp_and (h : TabM t P b cs ws m) (h2 : TabM t P2 b2 cs ws m2) (g : Gr cs ws) (hQ : NewT t cs ws (uni 1 m m2) q Q) : wpR (c_Table_and [.ref (P + 2), .ref (P2 + 2)] (stm q t)) Q E := by
  unfold c_Table_and
  refine wp_fn (by simp) ?_
  have l1 := h.len12 g
  obtain ⟨u1, u2⟩ := uni_ok 1 h.ok h2.ok
  simp_all! [ins_stm h.ins]
  refine wpI_intro (by rfl) ?_
  simp_all! [check_M (q := q) h h2 g, ins_stm h.ins]
  refine wpI_intro (by rfl) ?_
  simp_all! [ins_stm h.ins]
  refine wpI_intro (by rfl) ?_
  simp_all! [squares_M (q := q) h]
  refine wpI_intro (by rw [List.length_map]; omega) ?_
  rw [wp_pick2 (neg := false) h h2 (fun p hp => ?_) rfl]
  · rw [wpR_ok]
    have e : (m.filter fun p => false ^^ decide (p ∈ m2)) = uni 1 m m2 := by
      show _ = m.filter _
      congr 1
      funext p
      simp
    rw [e]
    walk_at "wu"
    exact wp_other h g u1.sub (by have := List.length_filter_le (fun p => decide (p ∈ m2)) m; show (m.filter _).length ≤ _; omega) fun o1 o2 T => hQ.of T u1 fun _ => Iff.rfl
  · have e := nqM (q := q) (p := p) h2
    obtain ⟨o, ho, hi⟩ := Option.map_eq_some_iff.mp e
    simp_all! [ins_stm h2.ins, Option.bind_some, fld_bk (cs := cs) (ws := ws), ho]
    rw [hi]
    exact ⟨by simp, by trivial⟩
theorem wp_sub (h : TabM t P b cs ws m) (h2 : TabM t P2 b2 cs ws m2) (g : Gr cs ws) (hQ : NewT t cs ws (uni 2 m m2) q Q) : wpR (c_Table_sub [.ref (P + 2), .ref (P2 + 2)] (stm q t)) Q E := by
  unfold c_Table_sub
  refine wp_fn (by simp) ?_
  have l1 := h.len12 g
  obtain ⟨u1, u2⟩ := uni_ok 2 h.ok h2.ok
  simp_all! [ins_stm h.ins]
  refine wpI_intro (by rfl) ?_
  simp_all! [check_M (q := q) h h2 g, ins_stm h.ins]
  refine wpI_intro (by rfl) ?_
  simp_all! [ins_stm h.ins]
  refine wpI_intro (by rfl) ?_
  simp_all! [squares_M (q := q) h]
  refine wpI_intro (by rw [List.length_map]; omega) ?_
  rw [wp_pick2 (neg := true) h h2 (fun p hp => ?_) rfl]
  · rw [wpR_ok]
    have e : (m.filter fun p => true ^^ decide (p ∈ m2)) = uni 2 m m2 := by
      show _ = m.filter _
      congr 1
      funext p
      simp
    rw [e]
    walk_at "wu"
    exact wp_other h g u1.sub (by have := List.length_filter_le (fun p => !decide (p ∈ m2)) m; show (m.filter _).length ≤ _; omega) fun o1 o2 T => hQ.of T u1 fun _ => Iff.rfl
  · have e := nqM (q := q) (p := p) h2
    obtain ⟨o, ho, hi⟩ := Option.map_eq_some_iff.mp e
    simp_all! [ins_stm h2.ins, Option.bind_some, fld_bk (cs := cs) (ws := ws), ho]
    rw [hi]
    exact ⟨by simp, by trivial⟩
end
end MP


set_option Elab.async false
set_option linter.all false
set_option maxRecDepth 100000
set_option maxHeartbeats 8000000
/-! KT4: signs in place; squares put in and taken out -/
namespace MP
variable [Wd]
open PySem L2
section
variable {q : Sp0} {t : Sto} {Q : D → Sto → Prop} {E : XP} {P b P2 b2 : Nat} {cs ws : List Str} {m m2 : List Sq}
theorem TabM.gw {t' : Sto} (h : TabM t P b cs ws m) (g : Gw t t') : TabM t' P b cs ws m := by
  obtain ⟨sq, a1, a2, _⟩ := h.at_
  exact h.mono (g.at_ _ (List.getElem?_eq_some_iff.mp a1).1) (g.at_ _ (List.getElem?_eq_some_iff.mp a2).1)
theorem wp_xor (h : TabM t P b cs ws m) (h2 : TabM t P2 b2 cs ws m2) (g : Gr cs ws) (hQ : NewT t cs ws (uni 3 m m2) q Q) : wpR (c_Table_xor [.ref (P + 2), .ref (P2 + 2)] (stm q t)) Q E := by
  unfold c_Table_xor
  refine wp_fn (by simp) ?_
  simp_all! [↓wp_mBinO, h.insE, h2.insE, Option.isSome_some]
  refine wp_sub h h2 g fun t1 P1 g1 l1 T1 => ?_
  have h' := h.gw g1
  have h2' := h2.gw g1
  simp_all! [↓wp_mBinO, h'.insE, h2'.insE, Option.isSome_some]
  refine wp_sub h2' h' g fun t2 P3 g2 l2 T2 => ?_
  have T1 := T1.gw g2
  simp_all! [T1.insE, T2.insE, Option.isSome_some]
  exact wp_or T1 T2 g fun t3 P4 g3 l3 T3 => hQ t3 P4 ((g1.trans g2).trans g3) (by have := g1.len; have := g2.len; omega) T3
theorem wp_signed {w : Nat} (hw : w ≤ 3) (h : TabM t P b cs ws m) (h2 : TabM t P2 b2 cs ws m2) (g : Gr cs ws) (hQ : NewT t cs ws (uni w m m2) q Q) : wpR (l_signed [.int (w : Int), .ref (P + 2), .ref (P2 + 2)] (stm q t)) Q E := by
  unfold l_signed
  refine wp_fn (by simp) ?_
  walk_at "wu"
  refine wpB_dec (fun e => ?_) (fun e => ?_)
  · obtain rfl : w = 0 := by omega
    simp_all! [↓wp_mBinO, h.insE, h2.insE, Option.isSome_some]
    exact wp_or h h2 g hQ
  walk_at "wu"
  refine wpB_dec (fun e => ?_) (fun e => ?_)
  · obtain rfl : w = 1 := by omega
    simp_all! [↓wp_mBinO, h.insE, h2.insE, Option.isSome_some]
    exact wp_and h h2 g hQ
  walk_at "wu"
  refine wpB_dec (fun e => ?_) (fun e => ?_)
  · obtain rfl : w = 2 := by omega
    simp_all! [↓wp_mBinO, h.insE, h2.insE, Option.isSome_some]
    exact wp_sub h h2 g hQ
  · obtain rfl : w = 3 := by omega
    simp_all! [↓wp_mBinO, h.insE, h2.insE, Option.isSome_some]
    exact wp_xor h h2 g hQ
/-- the table's dict is another one: all else stays -/
structure OneT (t t' : Sto) (P b : Nat) : Prop where
  len : t.length ≤ t'.length
  at_ : ∀ i, i < t.length → i ≠ P → i ≠ b → t'[i]? = t[i]?
theorem wp_become (h : TabM t P b cs ws m) (h2 : TabM t P2 b2 cs ws m2) (g : Gr cs ws) (hQ : ∀ t' b', OneT t t' P P → t.length ≤ b' → TabM t' P b' cs ws m2 → Q (.ref (P + 2)) (stm q t')) : wpR (c_Table_become [.ref (P + 2), .ref (P2 + 2)] (stm q t)) Q E := by
  unfold c_Table_become
  refine wp_fn (by simp) ?_
  have l2 := h2.len12 g
  have lt := (List.getElem?_eq_some_iff.mp h.ins).1
  simp_all! [h2.insE]
  refine wpI_intro (by rfl) ?_
  simp_all! [squares_M (q := q) h2]
  refine wpI_intro (by rw [List.length_map]; omega) ?_
  rw [ndL_pureG (by trivial) (fun d => (keyQ (sqOf d), sqD (sqOf d), .bl true)) (fun d hd => ?_)]
  · walk_at "wu"
    have ef : (m2.map sqD).foldl (fun l d => putNd l (keyQ (sqOf d), sqD (sqOf d), D.bl true).1 (keyQ (sqOf d), sqD (sqOf d), D.bl true).2.1 (keyQ (sqOf d), sqD (sqOf d), D.bl true).2.2) [] = bkL (ddQ [] m2) := by
      refine fold_things (ps := sqOf) (acc := []) ?_
      generalize m2 = l
      induction l with
      | nil => exact .nil
      | cons p l ih => exact .cons rfl ih
    rw [ef]
    have hP3 : (t ++ [Ob.dn (bkL (ddQ [] m2))])[P]? = some (.ins "Table" (tabF cs ws (b + 2))) := by rw [List.getElem?_append_left lt]; exact h.ins
    simp_all! [fput?, ins_stm hP3, Option.bind_some, stm_len]
    rw [show putFD "back" (.ref (t.length + 2)) (tabF cs ws (b + 2)) = tabF cs ws (t.length + 2) from rfl, if_pos (show (tabF cs ws (b + 2)).length < 1000 from (by decide : (3 : Nat) < 1000)), wpO_some, stm_upd]
    walk_at "wu"
    refine hQ _ t.length ⟨by simp, fun i hi h1 _ => ?_⟩ (Nat.le_refl _) ⟨⟨ddQ [] m2, ?_, ?_, ddQ_nd _ _ .nil, fun x => by rw [ddQ_mem]; simp⟩, h2.ok⟩
    · rw [List.getElem?_set_ne (fun e => h1 e.symm), List.getElem?_append_left hi]
    · rw [List.getElem?_set_self (by simp; omega)]
    · rw [List.getElem?_set_ne (by omega)]; simp
  · obtain ⟨p, hp, rfl⟩ := List.mem_map.mp hd
    refine ⟨_, rfl, rfl, eq_wp ?_, rfl, nk_sq _⟩
    walk_at "wu"
    exact ⟨by trivial, by trivial⟩
theorem OneT.of_gw {t1 t' : Sto} (g : Gw t t1) (h : OneT t1 t' P P) : OneT t t' P P := ⟨Nat.le_trans g.len h.len, fun i hi h1 h2 => (h.at_ i (Nat.lt_of_lt_of_le hi g.len) h1 h2).trans (g.at_ i hi)⟩
abbrev InP (t : Sto) (q : Sp0) (P : Nat) (cs ws : List Str) (m : List Sq) (Q : D → Sto → Prop) : Prop := ∀ t' b', OneT t t' P P → t.length ≤ b' → TabM t' P b' cs ws m → Q (.ref (P + 2)) (stm q t')
theorem wp_beh {t1 : Sto} {P1 b1 : Nat} {m1 : List Sq} (h : TabM t P b cs ws m) (g : Gr cs ws) (g1 : Gw t t1) (T1 : TabM t1 P1 b1 cs ws m1) (hQ : InP t q P cs ws m1 Q) : wpR (c_Table_become [.ref (P + 2), .ref (P1 + 2)] (stm q t1)) Q E :=
  wp_become (h.gw g1) T1 g fun t' b' o l T => hQ t' b' (.of_gw g1 o) (Nat.le_trans g1.len l) T
theorem wp_ior (h : TabM t P b cs ws m) (h2 : TabM t P2 b2 cs ws m2) (g : Gr cs ws) (hQ : InP t q P cs ws (uni 0 m m2) Q) : wpR (c_Table_ior [.ref (P + 2), .ref (P2 + 2)] (stm q t)) Q E := by
  unfold c_Table_ior
  refine wp_fn (by simp) ?_
  simp_all! [h.insE]
  refine wpI_intro (by rfl) ?_
  simp_all! [↓wp_mBinO, h.insE, h2.insE, Option.isSome_some]
  refine wp_or h h2 g fun t1 P1 g1 l1 T1 => ?_
  walk_at "wu"
  exact wp_beh h g g1 T1 hQ
theorem wp_iand (h : TabM t P b cs ws m) (h2 : TabM t P2 b2 cs ws m2) (g : Gr cs ws) (hQ : InP t q P cs ws (uni 1 m m2) Q) : wpR (c_Table_iand [.ref (P + 2), .ref (P2 + 2)] (stm q t)) Q E := by
  unfold c_Table_iand
  refine wp_fn (by simp) ?_
  simp_all! [h.insE]
  refine wpI_intro (by rfl) ?_
  simp_all! [↓wp_mBinO, h.insE, h2.insE, Option.isSome_some]
  refine wp_and h h2 g fun t1 P1 g1 l1 T1 => ?_
  walk_at "wu"
  exact wp_beh h g g1 T1 hQ
theorem wp_isub (h : TabM t P b cs ws m) (h2 : TabM t P2 b2 cs ws m2) (g : Gr cs ws) (hQ : InP t q P cs ws (uni 2 m m2) Q) : wpR (c_Table_isub [.ref (P + 2), .ref (P2 + 2)] (stm q t)) Q E := by
  unfold c_Table_isub
  refine wp_fn (by simp) ?_
  simp_all! [h.insE]
  refine wpI_intro (by rfl) ?_
  simp_all! [↓wp_mBinO, h.insE, h2.insE, Option.isSome_some]
  refine wp_sub h h2 g fun t1 P1 g1 l1 T1 => ?_
  walk_at "wu"
  exact wp_beh h g g1 T1 hQ
theorem wp_ixor (h : TabM t P b cs ws m) (h2 : TabM t P2 b2 cs ws m2) (g : Gr cs ws) (hQ : InP t q P cs ws (uni 3 m m2) Q) : wpR (c_Table_ixor [.ref (P + 2), .ref (P2 + 2)] (stm q t)) Q E := by
  unfold c_Table_ixor
  refine wp_fn (by simp) ?_
  simp_all! [h.insE]
  refine wpI_intro (by rfl) ?_
  simp_all! [↓wp_mBinO, h.insE, h2.insE, Option.isSome_some]
  refine wp_xor h h2 g fun t1 P1 g1 l1 T1 => ?_
  walk_at "wu"
  exact wp_beh h g g1 T1 hQ
theorem wp_in_place {w : Nat} (hw : w ≤ 3) (h : TabM t P b cs ws m) (h2 : TabM t P2 b2 cs ws m2) (g : Gr cs ws) (hQ : InP t q P cs ws (uni w m m2) Q) : wpR (l_in_place [.int (w : Int), .ref (P + 2), .ref (P2 + 2)] (stm q t)) Q E := by
  unfold l_in_place
  refine wp_fn (by simp) ?_
  walk_at "wu"
  refine wpB_dec (fun e => ?_) (fun e => ?_)
  · obtain rfl : w = 0 := by omega
    simp_all! [↓wp_mAugI, h.insE, Option.isSome_some]
    refine wp_ior h h2 g fun t' b' o l T => ?_
    walk_at "wu"
    exact hQ t' b' o l T
  walk_at "wu"
  refine wpB_dec (fun e => ?_) (fun e => ?_)
  · obtain rfl : w = 1 := by omega
    simp_all! [↓wp_mAugI, h.insE, Option.isSome_some]
    refine wp_iand h h2 g fun t' b' o l T => ?_
    walk_at "wu"
    exact hQ t' b' o l T
  walk_at "wu"
  refine wpB_dec (fun e => ?_) (fun e => ?_)
  · obtain rfl : w = 2 := by omega
    simp_all! [↓wp_mAugI, h.insE, Option.isSome_some]
    refine wp_isub h h2 g fun t' b' o l T => ?_
    walk_at "wu"
    exact hQ t' b' o l T
  · obtain rfl : w = 3 := by omega
    simp_all! [↓wp_mAugI, h.insE, Option.isSome_some]
    refine wp_ixor h h2 g fun t' b' o l T => ?_
    walk_at "wu"
    exact hQ t' b' o l T
/-- a square put in, or taken out -/
theorem wp_setitem {x : D} {p : Sq} {v : Bool} (h : TabM t P b cs ws m) (g : Gr cs ws) (hx : SqT t x p) (hc : p.1 ∈ cs) (hw : p.2 ∈ ws) (hQ : ∀ t', OneT t t' b b → TabM t' P b cs ws (uni (if v then 0 else 2) m [p]) → Q .non (stm q t')) : wpR (c_Table_setitem [.ref (P + 2), x, .bl v] (stm q t)) Q E := by
  obtain ⟨sq, h1, h2, h3, h4⟩ := h.at_
  have hb : b ≠ P := fun e => by subst e; rw [h1] at h2; cases h2
  have hlt := (List.getElem?_eq_some_iff.mp h2).1
  have one : SqOk cs ws [p] := ⟨by simp, by simp, fun y hy => by rw [List.mem_singleton] at hy; subst hy; exact ⟨hc, hw⟩⟩
  have l12 : sq.length ≤ 12 := by have := (perm_of h3 h.ok.nd h4).length_eq; have := h.len12 g; omega
  have oneT : ∀ o : Ob, OneT t (t.set b o) b b := fun o => ⟨by simp, fun i _ hi _ => List.getElem?_set_ne (fun e => hi e.symm)⟩
  have mk : ∀ (l : List Sq), l.Nodup → SqOk cs ws (uni (if v then 0 else 2) m [p]) → (∀ y, y ∈ l ↔ y ∈ uni (if v then 0 else 2) m [p]) → TabM (t.set b (.dn (bkL l))) P b cs ws (uni (if v then 0 else 2) m [p]) := fun l k1 k2 k3 =>
    ⟨⟨l, by rw [List.getElem?_set_ne hb]; exact h1, List.getElem?_set_self hlt, k1, k3⟩, k2⟩
  have kn := knownT (q := q) h1 (cs := cs) (ws := ws) rfl rfl hx hc hw
  unfold c_Table_setitem
  refine wp_fn (by simp) ?_
  simp_all! [ins_stm h1]
  refine wpI_intro (by rfl) ?_
  cases v with
  | true =>
    obtain ⟨u1, u2⟩ := uni_ok 0 h.ok one
    simp_all! [kn, show ∀ s : Sto, fNotB s (.bl true) (.bl true) = some (.bl false) from fun _ => rfl, ins_stm h1]
    refine wpI_intro (by rfl) ?_
    unfold c_Table_put_square
    simp_all! [wp_mNPut, ins_stm h1, Option.bind_some, fld_bk (cs := cs) (ws := ws)]
    rw [show np? (stm q t) (.ref (b + 2)) (sqD p) (.bl true) = some (stm q (t.set b (.dn (putNd (bkL sq) (keyQ p) (sqD p) (.bl true))))) from by
      unfold np?
      dsimp only
      rw [nk_sq, Option.bind_some, stm_get, h2]
      dsimp only
      rw [if_pos (by rw [List.length_map]; omega), stm_upd], put_bk]
    walk_at "wu"
    refine hQ _ (oneT _) (mk _ ?_ u1 fun y => ?_)
    · by_cases hp : p ∈ sq
      · rw [if_pos hp]; exact h3
      · rw [if_neg hp, List.nodup_append]
        exact ⟨h3, by simp, fun a ha c hc e => by
          rw [List.mem_singleton] at hc
          subst hc; subst e
          exact hp ha⟩
    · show _ ↔ y ∈ uni 0 m [p]
      rw [u2]
      show _ ↔ y ∈ m ∨ y ∈ [p]
      by_cases hp : p ∈ sq
      · rw [if_pos hp, h4, List.mem_singleton]
        exact ⟨.inl, fun h => h.elim id fun e => by rw [e]; exact (h4 p).mp hp⟩
      · rw [if_neg hp, List.mem_append, h4]
  | false =>
    obtain ⟨u1, u2⟩ := uni_ok 2 h.ok one
    simp_all! [kn, show ∀ s : Sto, fNotB s (.bl false) (.bl true) = some (.bl true) from fun _ => rfl, show ∀ s : Sto, fNotB s (.bl false) (.bl false) = some (.bl false) from fun _ => rfl, ins_stm h1]
    refine wpI_intro (by rfl) ?_
    unfold c_Table_put_square
    simp_all! [wp_mNPop, ins_stm h1, Option.bind_some, fld_bk (cs := cs) (ws := ws), nd_stm (q := q) h2, Option.isSome_some]
    rw [show npop? (stm q t) (.ref (b + 2)) (sqD p) .non = some ((getNd (bkL sq) (keyQ p)).getD .non, stm q (t.set b (.dn (bkL (sq.erase p))))) from by
      unfold npop?
      rw [nk_sq]
      dsimp only
      rw [stm_get, h2]
      dsimp only
      rw [if_pos (by rw [List.length_map]; omega), stm_upd, era_bk]]
    walk_at "wu"
    refine hQ _ (oneT _) (mk _ (h3.erase _) u1 fun y => ?_)
    show _ ↔ y ∈ uni 2 m [p]
    rw [u2]
    show _ ↔ y ∈ m ∧ ¬ y ∈ [p]
    rw [h3.mem_erase_iff, h4, List.mem_singleton]
    exact And.comm
end
end MP


set_option Elab.async false
set_option linter.all false
set_option maxRecDepth 100000
set_option maxHeartbeats 16000000
/-! KT5: things listed and spoiled; the law makes a table -/
namespace MP
variable [Wd]
open PySem L2
section
variable {q : Sp0} {t : Sto} {Q : D → Sto → Prop} {E : XP}
/-- the items of a list or a tuple -/
inductive SeqT (t : Sto) : D → List D → Prop where
  | tup {l : List D} : SeqT t (.tup l) l
  | box {l : List D} {k : Nat} (h : t[k]? = some (.lst l)) : SeqT t (.ref (k + 2)) l
theorem SeqT.gw {t' : Sto} {x : D} {l : List D} (h : SeqT t x l) (g : Gw t t') : SeqT t' x l := by
  cases h with
  | tup => exact .tup
  | box h => exact .box (g.keep h)
theorem listed_str {n : Nat} {z : Str} {s : Sto} : l_listed (n + 1) [.ref 1, .str z] s = some (.ok (.str z) s) := by
  refine eq_wp ?_
  unfold l_listed
  refine wp_fn (by simp) ?_
  simp_all! [show (kdD s (.str z)).bind (fB ["tuple"]) = some false from rfl, Bool.not_false]
  exact ⟨by trivial, by trivial⟩
/-- a tuple is listed: its items one by one, then a box or a tuple -/
theorem wp_listedG {n : Nat} {xs : List D} {J : Sto → List D → Prop} (hq : q.Ok) (hb : q.b < 7000000) (hl : xs.length ≤ 100) {c : Nat} (hc : c ≤ 10) (h0 : J t [])
    (hJ : ∀ {t : Sto} {ys : List D} {o : Ob}, J t ys → J (t ++ [o]) ys)
    (hs : ∀ (i : Nat) (x : D) (ys : List D) (q1 : Sp0) (t1 : Sto), xs[i]? = some x → ys.length = i → Gw t t1 → J t1 ys → q1.Ok → q1.b ≤ q.b + 1000 → ∀ (Q1 : D → Sto → Prop), (∀ y q2 t2, Adv q1 q2 c → Gw t1 t2 → J t2 (ys ++ [y]) → Q1 y (stm q2 t2)) → wpR (l_listed n [.ref 1, x] (stm q1 t1)) Q1 (fun _ _ => False))
    (hQ : ∀ (y : D) (ys : List D) (q' : Sp0) (t' : Sto), Gw t t' → Adv q q' (c * xs.length + 1) → J t' ys → ys.length = xs.length → SeqT t' y ys → (∀ k, y = .ref (k + 2) → t.length ≤ k) → Q y (stm q' t')) : wpR (l_listed (n + 1) [.ref 1, .tup xs] (stm q t)) Q E := by
  unfold l_listed
  refine wp_fn (by simp) ?_
  have cb : (c : Int) * xs.length ≤ 1000 := by
    have : c * xs.length ≤ 10 * 100 := Nat.mul_le_mul hc hl
    have e : ((c * xs.length : Nat) : Int) = (c : Int) * xs.length := by simp
    omega
  simp_all! [show (kdD (stm q t) (.tup xs)).bind (fB ["tuple"]) = some true from rfl, Bool.not_true]
  refine wpI_intro (by omega) ?_
  refine wp_lcB (fun rest acc s => ∃ (q1 : Sp0) (t1 : Sto), rest = xs.drop acc.length ∧ s = stm q1 t1 ∧ Gw t t1 ∧ J t1 acc ∧ acc.length ≤ xs.length ∧ Adv q q1 (c * acc.length)) ?_ ?_ ⟨q, t, rfl, rfl, Gw.refl, h0, Nat.zero_le _, (Adv.refl hq).mono (by simp)⟩
  · rintro x rest acc s ⟨q1, t1, hr, rfl, g1, j1, hlen, a1⟩
    refine ⟨trivial, ?_⟩
    have hx : xs[acc.length]? = some x := by
      have := congrArg (·[0]?) hr
      simpa using this.symm
    have hi := (List.getElem?_eq_some_iff.mp hx).1
    have b1 := a1.hi
    have m1 : (c : Int) * acc.length ≤ c * xs.length := by
      have : c * acc.length ≤ c * xs.length := Nat.mul_le_mul_left _ hlen
      have e1 : ((c * acc.length : Nat) : Int) = (c : Int) * acc.length := by simp
      have e2 : ((c * xs.length : Nat) : Int) = (c : Int) * xs.length := by simp
      omega
    walk_at "wu"
    refine hs acc.length x acc q1 t1 hx rfl g1 j1 a1.ok (by omega) _ fun y q2 t2 a2 g2 j2 => ?_
    refine ⟨q2, t2, ?_, rfl, g1.trans g2, j2, by rw [List.length_append, List.length_singleton]; omega, a1.trans a2 ?_⟩
    · rw [List.length_append, List.length_singleton, ← List.tail_drop, ← hr]
      rfl
    · rw [List.length_append, List.length_singleton]
      have : (c : Int) * ((acc.length + 1 : Nat) : Int) = c * acc.length + c := by
        rw [Int.natCast_add, Int.mul_add]
        simp
      omega
  · rintro acc s ⟨q1, t1, hr, rfl, g1, j1, hlen, a1⟩
    refine ⟨trivial, ?_⟩
    have hn : acc.length = xs.length := by
      have := congrArg List.length hr
      simp at this
      omega
    rw [hn] at a1
    have b1 := a1.hi
    simp_all! [stm_len, stm_app]
    refine wp_draw a1.ok (by omega) (by decide) (by decide) fun i q2 hi a2 => ?_
    have g2 : Gw t (t1 ++ [Ob.lst acc]) := g1.trans Gw.app
    have hbx : (t1 ++ [Ob.lst acc])[t1.length]? = some (.lst acc) := last_get
    have ad := a1.trans a2 (Int.le_refl _)
    walk_at "wu"
    refine wpB_dec (fun _ => ?_) (fun _ => ?_)
    · walk_at "wu"
      exact hQ _ acc q2 _ g2 ad (hJ j1) hn (.box hbx) fun k e => by
        injection e with e
        have := g1.len
        omega
    · walk_at "wu"
      rw [show gTuple (stm q2 (t1 ++ [Ob.lst acc])) [.ref (t1.length + 2)] = some (.tup acc) from by
        unfold gTuple
        dsimp only
        rw [items_stm hbx]
        rfl]
      walk_at "wu"
      exact hQ _ acc q2 _ g2 ad (hJ j1) hn .tup fun k e => nomatch e
theorem wp_listedN {n : Nat} {zs : List Str} (hq : q.Ok) (hb : q.b < 6000000) (hl : zs.length ≤ 100) (hQ : ∀ (y : D) (q' : Sp0) (t' : Sto), Gw t t' → Adv q q' 1 → SeqT t' y (zs.map .str) → (∀ k, y = .ref (k + 2) → t.length ≤ k) → Q y (stm q' t')) : wpR (l_listed (n + 2) [.ref 1, .tup (zs.map .str)] (stm q t)) Q E := by
  refine wp_listedG (J := fun _ ys => ys = (zs.map D.str).take ys.length) hq (by omega) (by rw [List.length_map]; exact hl) (c := 0) (by decide) rfl (fun h => h) (fun i x ys q1 t1 hx hn g1 hj hq1 hb1 Q1 h => ?_) fun y ys q' t' g a hj hn hs hk => ?_
  · obtain ⟨z, hz, rfl⟩ : ∃ z, zs[i]? = some z ∧ x = .str z := by
      rw [List.getElem?_map] at hx
      obtain ⟨z, h1, h2⟩ := Option.map_eq_some_iff.mp hx
      exact ⟨z, h1, h2.symm⟩
    rw [listed_str, wpR_ok]
    refine h _ q1 t1 (Adv.refl hq1) Gw.refl ?_
    rw [List.length_append, List.length_singleton, List.take_succ, ← hj, hn, hx]
    rfl
  · rw [hn, List.take_length] at hj
    rw [hj] at hs
    exact hQ y q' t' g (a.mono (by simp)) hs hk
theorem wp_listedS {n : Nat} {p : Sq} (hq : q.Ok) (hb : q.b < 6000000) (hQ : ∀ (y : D) (q' : Sp0) (t' : Sto), Gw t t' → Adv q q' 1 → SqT t' y p → (∀ k, y = .ref (k + 2) → t.length ≤ k) → (∀ l, y ≠ .lst l) → Q y (stm q' t')) : wpR (l_listed (n + 2) [.ref 1, sqD p] (stm q t)) Q E := by
  refine wp_listedN (zs := [p.1, p.2]) hq hb (by simp) fun y q' t' g a hs hk => ?_
  cases hs with
  | tup => exact hQ _ q' t' g a .tup hk fun l e => nomatch e
  | box h => exact hQ _ q' t' g a (.box h) hk fun l e => nomatch e
theorem pair_app9 {α β : Type} {R : α → β → Prop} : ∀ {as cs : List α} {bs ds : List β}, Paired R as bs → Paired R cs ds → Paired R (as ++ cs) (bs ++ ds)
  | _, _, _, _, .nil, q => q
  | _, _, _, _, .cons h t, q => .cons h (pair_app9 t q)
theorem wp_listedL {n : Nat} {sq : List Sq} (hq : q.Ok) (hb : q.b < 5000000) (hl : sq.length ≤ 100) (hQ : ∀ (y : D) (ys : List D) (q' : Sp0) (t' : Sto), Gw t t' → Adv q q' (sq.length + 1) → SeqT t' y ys → Paired (SqT t') ys sq → (∀ x ∈ ys, (∀ k, x = .ref (k + 2) → t.length ≤ k) ∧ ∀ l, x ≠ .lst l) → (∀ k, y = .ref (k + 2) → t.length ≤ k) → Q y (stm q' t')) : wpR (l_listed (n + 3) [.ref 1, .tup (sq.map sqD)] (stm q t)) Q E := by
  refine wp_listedG (J := fun t' ys => Paired (SqT t') ys (sq.take ys.length) ∧ ∀ x ∈ ys, (∀ k, x = .ref (k + 2) → t.length ≤ k) ∧ ∀ l, x ≠ .lst l) hq (by omega) (by rw [List.length_map]; exact hl) (c := 1) (by decide) ⟨.nil, fun _ h => nomatch h⟩ (fun {t1 ys o} h => ⟨Paired.mapP h.1 fun x p hx => hx.mono fun i l hi => Gw.app.keep hi, h.2⟩) (fun i x ys q1 t1 hx hn g1 hj hq1 hb1 Q1 h => ?_) fun y ys q' t' g a hj hn hs hk => ?_
  · obtain ⟨p, hp, rfl⟩ : ∃ p, sq[i]? = some p ∧ x = sqD p := by
      rw [List.getElem?_map] at hx
      obtain ⟨z, h1, h2⟩ := Option.map_eq_some_iff.mp hx
      exact ⟨z, h1, h2.symm⟩
    refine wp_listedS hq1 (by omega) fun y q2 t2 g2 a2 s2 k2 n2 => h y q2 t2 a2 g2 ⟨?_, fun x hx => ?_⟩
    · rw [List.length_append, List.length_singleton, List.take_succ, hn, hp, ← hn]
      exact pair_app9 (Paired.mapP hj.1 fun x p hx => hx.mono fun i l hi => g2.keep hi) (.cons s2 .nil)
    · rcases List.mem_append.mp hx with hx | hx
      · exact hj.2 x hx
      · rw [List.mem_singleton] at hx
        subst hx
        exact ⟨fun k e => Nat.le_trans g1.len (k2 k e), n2⟩
  · rw [List.length_map] at hn a
    rw [hn, List.take_length] at hj
    exact hQ y ys q' t' g (a.mono (by simp)) hs hj.1 hj.2 hk
/-! ### spoiled -/
/-- lists from lo on have grown by zeros, all else stays -/
structure Grown (lo c : Nat) (t t' : Sto) : Prop where
  len : t'.length = t.length
  at_ : ∀ i, t'[i]? = t[i]? ∨ (lo ≤ i ∧ ∃ l u : List D, t[i]? = some (.lst l) ∧ t'[i]? = some (.lst (l ++ u)) ∧ u.length ≤ c ∧ ∀ x ∈ u, x = .int 0)
theorem Grown.refl {lo : Nat} : Grown lo 0 t t := ⟨rfl, fun _ => .inl rfl⟩
theorem Grown.trans {lo m n : Nat} {a b c : Sto} (h : Grown lo m a b) (g : Grown lo n b c) : Grown lo (m + n) a c := ⟨g.len.trans h.len, fun i => by
  rcases h.at_ i with h1 | ⟨k1, l, u, e1, e2, e4, e3⟩ <;> rcases g.at_ i with h2 | ⟨k2, l', u', f1, f2, f4, f3⟩
  · exact .inl (h2.trans h1)
  · exact .inr ⟨k2, l', u', by rw [← h1]; exact f1, f2, by omega, f3⟩
  · exact .inr ⟨k1, l, u, e1, h2.trans e2, by omega, e3⟩
  · rw [e2] at f1
    injection f1 with f1
    injection f1 with f1
    subst f1
    exact .inr ⟨k1, l, u ++ u', e1, by rw [f2, List.append_assoc], by rw [List.length_append]; omega, fun x hx => (List.mem_append.mp hx).elim (e3 x) (f3 x)⟩⟩
theorem Grown.one {lo k : Nat} {l : List D} (h : t[k]? = some (.lst l)) (hk : lo ≤ k) : Grown lo 1 t (t.set k (.lst (l ++ [.int 0]))) := ⟨by simp, fun i => by
  by_cases e : k = i
  · subst e
    exact .inr ⟨hk, l, [.int 0], h, List.getElem?_set_self (List.getElem?_eq_some_iff.mp h).1, by simp, fun x hx => by simpa using hx⟩
  · exact .inl (List.getElem?_set_ne e)⟩
def Lf (d : D) : Prop := (∃ z, d = .str z) ∨ d = .int 0
theorem gList_seq {x : D} {l : List D} (h : SeqT t x l) : gList (stm q t) [x] = some (.lst l) := by
  cases h with
  | tup => rfl
  | box h =>
    show (seqS _ _).map D.lst = _
    rw [show seqS (stm q t) (.ref (_ + 2)) = items? (stm q t) (.ref (_ + 2)) from rfl, items_stm h]
    rfl
theorem kd_lt {x : D} {l : List D} (h : SeqT t x l) : (kdD (stm q t) x).bind (fB ["list", "tuple"]) = some true := by
  cases h with
  | tup => rfl
  | box h => unfold kdD; dsimp only; rw [stm_get, h]; rfl
theorem kd_box {k : Nat} {l : List D} (h : t[k]? = some (.lst l)) : (kdD (stm q t) (.ref (k + 2))).bind (fB ["list"]) = some true := by
  unfold kdD; dsimp only; rw [stm_get, h]; rfl
theorem spoil_lf {n : Nat} {d : D} (h : Lf d) {s : Sto} : l_spoil (n + 1) [d] s = some (.ok .non s) := by
  refine eq_wp ?_
  unfold l_spoil
  refine wp_fn (by simp) ?_
  rcases h with ⟨z, rfl⟩ | rfl
  · simp_all! [show (kdD s (.str z)).bind (fB ["list", "tuple"]) = some false from rfl, show (kdD s (.str z)).bind (fB ["list"]) = some false from rfl]
    exact ⟨by trivial, by trivial⟩
  · simp_all! [show (kdD s (.int 0)).bind (fB ["list", "tuple"]) = some false from rfl, show (kdD s (.int 0)).bind (fB ["list"]) = some false from rfl]
    exact ⟨by trivial, by trivial⟩
/-- spoiled: first its items, then itself if it is a list -/
theorem wp_spoilG {n lo : Nat} {x : D} {l : List D} (hx : SeqT t x l) (hk : ∀ k, x = .ref (k + 2) → lo ≤ k) (hl : l.length ≤ 1000)
    (hs : ∀ (i : Nat) (y : D) (t1 : Sto), l[i]? = some y → i ≤ 1000 → Grown lo i t t1 → ∀ (Q1 : D → Sto → Prop), (∀ t2, Grown lo 1 t1 t2 → Q1 .non (stm q t2)) → wpR (l_spoil n [y] (stm q t1)) Q1 E)
    (hQ : ∀ t', Grown lo (l.length + 1) t t' → Q .non (stm q t')) : wpR (l_spoil (n + 1) [x] (stm q t)) Q E := by
  unfold l_spoil
  refine wp_fn (by simp) ?_
  simp_all! [kd_lt (q := q) hx, gList_seq (q := q) hx]
  refine wp_for (fun rest ρ s => ∃ (i : Nat) (t1 : Sto) (o : Option D), rest = l.drop i ∧ i ≤ l.length ∧ ρ = [some x, o] ∧ s = stm q t1 ∧ Grown lo i t t1) ?_ ?_ ⟨0, t, none, rfl, Nat.zero_le _, rfl, rfl, Grown.refl⟩
  · rintro y rest ρ s ⟨i, t1, o, hr, hi, rfl, rfl, g1⟩
    refine ⟨trivial, ?_⟩
    have hy : l[i]? = some y := by
      have := congrArg (·[0]?) hr
      simpa using this.symm
    have hlt := (List.getElem?_eq_some_iff.mp hy).1
    walk_at "wu"
    refine hs i y t1 hy (by omega) g1 _ fun t2 g2 => ?_
    exact ⟨i + 1, t2, _, by rw [← List.tail_drop, ← hr]; rfl, by omega, rfl, rfl, g1.trans g2⟩
  · rintro ρ s ⟨i, t1, o, hr, hi, rfl, rfl, g1⟩
    refine ⟨trivial, ?_⟩
    have hil : i = l.length := by
      have := congrArg List.length hr
      simp at this
      omega
    subst hil
    cases hx with
    | tup =>
      simp_all! [show (kdD (stm q t1) (.tup l)).bind (fB ["list"]) = some false from rfl]
      exact hQ t1 ⟨g1.len, fun j => (g1.at_ j).imp id fun ⟨a, l', u, b, c, d, e⟩ => ⟨a, l', u, b, c, by omega, e⟩⟩
    | @box _ k h =>
      obtain ⟨l1, h1, hl1⟩ : ∃ l1, t1[k]? = some (.lst l1) ∧ l1.length ≤ 2000 := by
        rcases g1.at_ k with e | ⟨_, l', u, b, c, d, e⟩
        · exact ⟨l, e.trans h, by omega⟩
        · rw [h] at b
          injection b with b
          injection b with b
          subst b
          exact ⟨_, c, by rw [List.length_append]; omega⟩
      simp_all! [kd_box (q := q) h1, tyL_stm h1, app_stm (q := q) (d := .int 0) h1 (by omega)]
      exact hQ _ (g1.trans (Grown.one h1 (hk k rfl)))
theorem wp_spoil1 {n lo : Nat} {x : D} {l : List D} (hx : SeqT t x l) (hk : ∀ k, x = .ref (k + 2) → lo ≤ k) (hl : l.length ≤ 1000) (hf : ∀ y ∈ l, Lf y) (hQ : ∀ t', Grown lo (l.length + 1) t t' → Q .non (stm q t')) : wpR (l_spoil (n + 2) [x] (stm q t)) Q E :=
  wp_spoilG hx hk hl (fun i y t1 hy _ g1 Q1 h => by
    rw [spoil_lf (hf y (List.mem_of_getElem? hy)), wpR_ok]
    exact h t1 ⟨rfl, fun _ => .inl rfl⟩) hQ
end
/-- its list grows by one at most -/
theorem wp_spoilS {q : Sp0} {t : Sto} {Q : D → Sto → Prop} {E : XP} {n lo c : Nat} {t0 : Sto} {x : D} {p : Sq} (hx : SqT t0 x p) (g : Grown lo c t0 t) (hc : c ≤ 900) (hk : ∀ k, x = .ref (k + 2) → lo ≤ k) (hne : ∀ l, x ≠ .lst l) (hQ : ∀ t', Grown lo 1 t t' → Q .non (stm q t')) : wpR (l_spoil (n + 2) [x] (stm q t)) Q E := by
  have leaf : ∀ (i : Nat) (y : D) (l : List D) (t1 : Sto), (∀ y ∈ l, Lf y) → l[i]? = some y → ∀ (Q1 : D → Sto → Prop), Q1 .non (stm q t1) → wpR (l_spoil (n + 1) [y] (stm q t1)) Q1 E := fun i y l t1 hf hy Q1 h => by
    rw [spoil_lf (hf y (List.mem_of_getElem? hy)), wpR_ok]
    exact h
  have two : ∀ y ∈ [D.str p.1, D.str p.2], Lf y := fun y hy => by
    simp only [List.mem_cons, List.not_mem_nil, or_false] at hy
    rcases hy with rfl | rfl
    · exact .inl ⟨_, rfl⟩
    · exact .inl ⟨_, rfl⟩
  -- the items change nothing; then the list itself
  have main : ∀ {l : List D}, SeqT t x l → l.length ≤ 1000 → (∀ y ∈ l, Lf y) → (∀ t', Grown lo 1 t t' → Q .non (stm q t')) → wpR (l_spoil (n + 2) [x] (stm q t)) Q E := fun {l} hs hl hf hQ => by
    unfold l_spoil
    refine wp_fn (by simp) ?_
    simp_all! [kd_lt (q := q) hs, gList_seq (q := q) hs]
    refine wp_for (fun rest ρ s => ∃ (i : Nat) (o : Option D), rest = l.drop i ∧ ρ = [some x, o] ∧ s = stm q t) ?_ ?_ ⟨0, none, rfl, rfl, rfl⟩
    · rintro y rest ρ s ⟨i, o, hr, rfl, rfl⟩
      refine ⟨trivial, ?_⟩
      have hy : l[i]? = some y := by
        have := congrArg (·[0]?) hr
        simpa using this.symm
      simp_all! [spoil_lf (n := n) (hf y (List.mem_of_getElem? hy))]
      exact ⟨i + 1, _, by rw [← List.tail_drop, ← hr]; rfl, rfl, by first | rfl | trivial⟩
    · rintro ρ s ⟨i, o, hr, rfl, rfl⟩
      refine ⟨trivial, ?_⟩
      cases hs with
      | tup =>
        simp_all! [show (kdD (stm q t) (.tup l)).bind (fB ["list"]) = some false from rfl]
        exact hQ t ⟨rfl, fun _ => .inl rfl⟩
      | @box _ k h =>
        simp_all! [kd_box (q := q) h, tyL_stm h, app_stm (q := q) (d := .int 0) h (by omega)]
        exact hQ _ (Grown.one h (hk k rfl))
  cases hx with
  | tup => exact main .tup (by simp) two hQ
  | lst => exact absurd rfl (hne _)
  | @box _ k h =>
    rcases g.at_ k with e | ⟨_, l', u, b, c', d, e⟩
    · exact main (.box (e.trans h)) (by simp) two hQ
    · rw [h] at b
      injection b with b
      injection b with b
      subst b
      refine main (.box c') (by rw [List.length_append]; simp; omega) (fun y hy => ?_) hQ
      rcases List.mem_append.mp hy with hy | hy
      · exact two y hy
      · exact .inr (e y hy)
end MP


set_option Elab.async false
set_option linter.all false
set_option maxRecDepth 100000
set_option maxHeartbeats 16000000
/-! KT6: the law makes a table -/
namespace MP
variable [Wd]
open PySem L2
theorem perm_back {α : Type} {f : α → D} {g : D → α} (hg : ∀ a, g (f a) = a) {ys : List D} {l : List α} (h : ys.Perm (l.map f)) : ∃ zs : List α, ys = zs.map f ∧ zs.Perm l := by
  refine ⟨ys.map g, ?_, ?_⟩
  · rw [List.map_map]
    refine (List.map_id ys).symm.trans (List.map_congr_left fun y hy => ?_)
    obtain ⟨a, _, rfl⟩ := List.mem_map.mp (h.mem_iff.mp hy)
    show f a = f (g (f a))
    rw [hg]
  · have := h.map g
    rw [List.map_map, show (g ∘ f) = id from funext fun a => hg a, List.map_id] at this
    exact this
section
variable {N : Env → Sto → Prop} {Rt : D → Sto → Prop} {B C : Env → Sto → Prop} {E : Xc → Env → Sto → Prop} {g : MG} {body : MS} {d : D} {ds : List D} {ρ : Env} {s : Sto}
theorem wp_for1 (h : wpR (g d ρ s) (fun ρ1 s1 => wpS (body ρ1 s1) (fun ρ2 s2 => wpS (forL any_ g body ds ρ2 s2) N Rt B C E) Rt N (fun ρ2 s2 => wpS (forL any_ g body ds ρ2 s2) N Rt B C E) E) (fun e s => E e ρ s)) : wpS (forL any_ g body (d :: ds) ρ s) N Rt B C E := by
  unfold forL
  rw [still_any, wpS_bnd]
  refine wpR_mono h (fun ρ1 s1 h3 => ?_) fun _ _ z => z
  obtain ⟨h3⟩ := h3
  cases hb : body ρ1 s1 with
  | none => rw [hb] at h3; exact h3.elim
  | some f =>
    rw [hb] at h3
    cases f with
    | nx ρ2 s2 => exact h3
    | ct ρ2 s2 => exact h3
    | bk ρ2 s2 => exact ⟨h3⟩
    | rt d s2 => exact ⟨h3⟩
    | ex e ρ2 s2 => exact ⟨h3⟩
theorem wp_for0 (h : N ρ s) : wpS (forL any_ g body [] ρ s) N Rt B C E := by
  unfold forL
  rw [still_any, wpS_nx]
  exact h
end
def strOf : D → Str
  | .str z => z
  | _ => ""
section
variable {q : Sp0} {t : Sto} {Q : D → Sto → Prop} {E : XP} {P b : Nat} {cs ws : List Str} {m : List Sq}
theorem SeqT.grown {lo c : Nat} {t0 : Sto} {x : D} {l : List D} (h : SeqT t0 x l) (g : Grown lo c t0 t) : ∃ u : List D, SeqT t x (l ++ u) ∧ u.length ≤ c ∧ ∀ y ∈ u, y = .int 0 := by
  cases h with
  | tup => exact ⟨[], by rw [List.append_nil]; exact .tup, Nat.zero_le _, fun _ h => nomatch h⟩
  | @box _ k h =>
    rcases g.at_ k with e | ⟨_, l', u, e1, e2, e4, e3⟩
    · exact ⟨[], by rw [List.append_nil]; exact .box (e.trans h), Nat.zero_le _, fun _ h => nomatch h⟩
    · rw [h] at e1
      injection e1 with e1
      injection e1 with e1
      subst e1
      exact ⟨u, .box e2, e4, e3⟩
theorem TabM.grown {lo c : Nat} {t' : Sto} (h : TabM t P b cs ws m) (g : Grown lo c t t') : TabM t' P b cs ws m := by
  obtain ⟨sq, a1, a2, _⟩ := h.at_
  refine h.mono ?_ ?_
  · rcases g.at_ P with e | ⟨_, l', u, e1, _⟩
    · exact e
    · rw [a1] at e1; cases e1
  · rcases g.at_ b with e | ⟨_, l', u, e1, _⟩
    · exact e
    · rw [a2] at e1; cases e1
theorem Gw.grown {lo c : Nat} {t1 t2 : Sto} (h : Gw t t1) (g : Grown lo c t1 t2) (hl : t.length ≤ lo) : Gw t t2 := ⟨by rw [g.len]; exact h.len, fun i hi => by
  rcases g.at_ i with e | ⟨k, _⟩
  · exact e.trans (h.at_ i hi)
  · omega⟩
theorem cellsB_M (h : TabM t P b cs ws m) : c_Table_cellsB [.ref (P + 2)] (stm q t) = some (.ok (.ref (t.length + 2)) (stm q (t ++ [.lst (cs.map .str)]))) := by
  refine eq_wp ?_
  unfold c_Table_cellsB
  refine wp_fn (by simp) ?_
  simp_all! [ins_stm h.ins, Option.bind_some, fld_cn (cs := cs) (ws := ws), show gListB (stm q t) [.lst (cs.map .str)] = some (.ref (t.length + 2), stm q (t ++ [.lst (cs.map .str)])) from rfl]
  exact ⟨by trivial, by trivial⟩
theorem waysB_M (h : TabM t P b cs ws m) : c_Table_waysB [.ref (P + 2)] (stm q t) = some (.ok (.ref (t.length + 2)) (stm q (t ++ [.lst (ws.map .str)]))) := by
  refine eq_wp ?_
  unfold c_Table_waysB
  refine wp_fn (by simp) ?_
  simp_all! [ins_stm h.ins, Option.bind_some, fld_wn (cs := cs) (ws := ws), show gListB (stm q t) [.lst (ws.map .str)] = some (.ref (t.length + 2), stm q (t ++ [.lst (ws.map .str)])) from rfl]
  exact ⟨by trivial, by trivial⟩
theorem squaresB_M (h : TabM t P b cs ws m) : c_Table_squaresB [.ref (P + 2)] (stm q t) = some (.ok (.ref (t.length + 2)) (stm q (t ++ [.lst (m.map sqD)]))) := by
  obtain ⟨sq, h1, h2, h3, h4⟩ := h.at_
  have e := gSortN_sq (f := fun _ => D.bl true) (nd_stm (q := q) h2)
  rw [same_of h3 h.ok h4] at e
  refine eq_wp ?_
  unfold c_Table_squaresB
  refine wp_fn (by simp) ?_
  have e2 : gSortNB (stm q t) [.ref (b + 2)] = some (.ref (t.length + 2), stm q (t ++ [.lst (m.map sqD)])) := by
    unfold gSortNB
    rw [e]
    rfl
  simp_all! [ins_stm h1, Option.bind_some, fld_bk (cs := cs) (ws := ws), e2]
  exact ⟨by trivial, by trivial⟩
theorem cells_app {l : List D} {d : D} (hl : l.length ≤ 1000) : bAppend (stm q (t ++ [.lst l])) (.ref (t.length + 2)) [d] = some (.non, stm q (t ++ [.lst (l ++ [d])])) := by
  rw [app_stm last_get (by omega), last_set]
theorem wp_made (hq : q.Ok) (hb : q.b < 4000000) (g : Gr cs ws) (hm : SqOk cs ws m) (hQ : ∀ (q' : Sp0) (t' : Sto) (P b : Nat), Gw t t' → Adv q q' 200 → TabM t' P b cs ws m → t.length ≤ P → t.length ≤ b → Q (.ref (P + 2)) (stm q' t')) : wpR (l_made [.ref 1, .lst (cs.map .str), .lst (ws.map .str), .lst (m.map sqD)] (stm q t)) Q E := by
  have l1 := g.g.cl
  have l2 := g.g.wl
  have l3 : m.length ≤ 12 := by
    have := hm.len
    have : cs.length * ws.length ≤ 3 * 4 := Nat.mul_le_mul l1 l2
    omega
  have tk : ∀ {α : Type} (f : α → D) (l : List α) (s : Sto), fSl s (.lst (l.map f)) none (some 1) = some (.lst ((l.take 1).map f)) := fun f l s => by
    rw [fSl_lst, show (1 : Int) = ((1 : Nat) : Int) from rfl, cutD_take, List.map_take]
  have ad : ∀ {α : Type} (f : α → D) (l : List α) (s : Sto), l.length ≤ 100 → fAdd s (.lst (l.map f)) (.lst ((l.take 1).map f)) = some (.lst ((l ++ l.take 1).map f)) := fun f l s h => by
    rw [fAdd_lst, if_pos (by rw [List.length_map, List.length_map, List.length_take]; omega), List.map_append]
  have tl : ∀ {α : Type} (l : List α), (l ++ l.take 1).length ≤ l.length + 1 := fun l => by rw [List.length_append, List.length_take]; omega
  have tm : ∀ {α : Type} {l : List α} {x : α}, x ∈ l ++ l.take 1 ↔ x ∈ l := fun {α l x} => by
    rw [List.mem_append]
    exact ⟨fun h => h.elim id List.mem_of_mem_take, .inl⟩
  unfold l_made
  refine wp_fn (by simp) ?_
  simp_all! [tk .str cs, ad .str cs _ (by omega)]
  refine wp_mixed hq (by omega) rfl (by rw [List.length_map]; have := tl cs; omega) fun ys1 q1 p1 a1 => ?_
  rw [List.length_map] at a1
  have b1 := a1.hi
  obtain ⟨xs, rfl, px⟩ := perm_back (g := strOf) (fun _ => rfl) p1
  simp_all! [tk .str ws, ad .str ws _ (by omega)]
  have tl1 := tl cs
  refine wp_mixed a1.ok (by omega) rfl (by rw [List.length_map]; have := tl ws; omega) fun ys2 q2 p2 a2 => ?_
  rw [List.length_map] at a2
  have b2 := a2.hi
  have tl2 := tl ws
  obtain ⟨ys, rfl, py⟩ := perm_back (g := strOf) (fun _ => rfl) p2
  simp_all! [tk sqD m, ad sqD m _ (by omega)]
  refine wp_mixed a2.ok (by omega) rfl (by rw [List.length_map]; have := tl m; omega) fun ys3 q3 p3 a3 => ?_
  rw [List.length_map] at a3
  have b3 := a3.hi
  have tl3 := tl m
  obtain ⟨zs, rfl, pz⟩ := perm_back (g := sqOf) (fun _ => rfl) p3
  have k1 : (t ++ [Ob.lst [], Ob.lst (xs.map D.str)])[t.length + 1]? = some (.lst (xs.map .str)) := by rw [List.getElem?_append_right (by omega)]; simp
  generalize ht2 : t ++ [Ob.lst [], Ob.lst (xs.map D.str)] = t2 at *
  have hl2 : t2.length = t.length + 2 := by rw [← ht2]; simp
  have g2 : Gw t t2 := by rw [← ht2]; exact Gw.app
  have k2 : (t2 ++ [Ob.lst [], Ob.lst (ys.map D.str)])[t2.length + 1]? = some (.lst (ys.map .str)) := by rw [List.getElem?_append_right (by omega)]; simp
  generalize ht3 : t2 ++ [Ob.lst [], Ob.lst (ys.map D.str)] = t3 at *
  have hl3 : t3.length = t2.length + 2 := by rw [← ht3]; simp
  have g3 : Gw t2 t3 := by rw [← ht3]; exact Gw.app
  have k3 : (t3 ++ [Ob.lst [], Ob.lst (zs.map sqD)])[t3.length + 1]? = some (.lst (zs.map sqD)) := by rw [List.getElem?_append_right (by omega)]; simp
  generalize ht4 : t3 ++ [Ob.lst [], Ob.lst (zs.map sqD)] = t4 at *
  have hl4 : t4.length = t3.length + 2 := by rw [← ht4]; simp
  have g4 : Gw t3 t4 := by rw [← ht4]; exact Gw.app
  have et : ∀ {k : Nat} {l : List D} {t : Sto} {q : Sp0}, t[k]? = some (.lst l) → gTuple (stm q t) [.ref (k + 2)] = some (.tup l) := fun h => by
    unfold gTuple
    dsimp only
    rw [items_stm h]
    rfl
  have zl : zs.length ≤ 13 := by have := pz.length_eq; omega
  have xl : xs.length ≤ 4 := by have := px.length_eq; omega
  have yl : ys.length ≤ 5 := by have := py.length_eq; omega
  simp_all! [et k3]
  refine wp_listedL (n := 17) a3.ok (by omega) (by omega) fun y yss q5 t5 g5 a5 s5 z5 n5 r5 => ?_
  have b5 := a5.hi
  simp_all! [et ((g5.trans Gw.refl).keep (g4.keep (g3.keep k1)))]
  refine wp_listedN (n := 18) a5.ok (by omega) (by omega) fun x q6 t6 g6 a6 s6 r6 => ?_
  have b6 := a6.hi
  have g56 := g5.trans g6
  have g26 : Gw t2 t6 := (g3.trans g4).trans g56
  have gt6 : Gw t t6 := g2.trans g26
  have n6 := gt6.len
  have n56 := g56.len
  have ky : (t6)[t2.length + 1]? = some (.lst (ys.map .str)) := g56.keep (g4.keep k2)
  have k6 := (List.getElem?_eq_some_iff.mp ky).1
  have sy := s5.gw g6
  have zy : Paired (SqT t6) yss zs := Paired.mapP z5 fun x p h => h.mono fun i l hi => g6.keep hi
  simp_all! [stm_len, stm_app]
  have app : ∀ {i : Nat} {o o' : Ob}, t6[i]? = some o → (t6 ++ [o'])[i]? = some o := fun h => Gw.app.keep h
  have ltP : ∀ {i : Nat} {o : Ob}, t6[i]? = some o → i ≠ t6.length := fun h e => by have := (List.getElem?_eq_some_iff.mp h).1; omega
  have sx7 : Given q6 (t6 ++ [Ob.ins "Table" []]) t6.length x (xs.map .str) := by
    cases s6 with
    | tup => exact given_tup
    | box h => exact given_box (app h) (ltP h)
  have sy7 : Given q6 (t6 ++ [Ob.ins "Table" []]) t6.length (.ref (t2.length + 1 + 2)) (ys.map .str) := given_box (app ky) (ltP ky)
  have ylen : yss.length = zs.length := Paired.length zy
  have sz7 : GivenQ q6 (t6 ++ [Ob.ins "Table" []]) t6.length y zs := by
    have pz7 : Paired (SqT (t6 ++ [Ob.ins "Table" []])) yss zs := Paired.mapP zy fun x p h => h.mono fun i l hi => Gw.app.keep hi
    have nx : ∀ x ∈ yss, x ≠ .ref (t6.length + 2) := fun x hx e => by
      obtain ⟨p, _, h⟩ := paired_get zy hx
      subst e
      cases h with
      | box h => exact ltP h rfl
    have gy : Given q6 (t6 ++ [Ob.ins "Table" []]) t6.length y yss := by
      cases sy with
      | tup => exact given_tup
      | box h => exact given_box (app h) (ltP h)
    obtain ⟨G, hG⟩ := gy
    exact ⟨⟨yss, G, ylen, pz7, nx, fun o => ⟨(hG o).1, (hG o).2.2⟩⟩⟩
  have mem_c : ∀ z, z ∈ xs ↔ z ∈ cs := fun z => px.mem_iff.trans tm
  have mem_w : ∀ z, z ∈ ys ↔ z ∈ ws := fun z => py.mem_iff.trans tm
  have mem_z : ∀ z, z ∈ zs ↔ z ∈ m := fun z => pz.mem_iff.trans tm
  have sd : ∀ {l k : List Str}, k.Nodup → (∀ z, z ∈ l ↔ z ∈ k) → srt k = k → srt (ddS l) = k := fun hk h hs => by
    rw [srt_congr ((List.perm_ext_iff_of_nodup (ddS_nodup _) hk).mpr fun z => by rw [ddS_mem]; exact h z), hs]
  refine wp_mkT sx7 sy7 sz7 (sd g.g.cn mem_c g.s1) (sd g.g.wn mem_w g.s2) (by omega) (by omega) (by omega) (fun z hz => g.g.co z ((mem_c z).mp hz)) (fun z hz => g.g.wo z ((mem_w z).mp hz)) (fun p hp => let h := hm.sub p ((mem_z p).mp hp); ⟨(mem_c _).mpr h.1, (mem_w _).mpr h.2⟩) fun o1 o2 T => ?_
  rw [same_of (ddQ_nd _ _ .nil) hm (fun x => by rw [ddQ_mem, ← mem_z]; simp)] at T
  generalize ht7 : t6 ++ [o1, o2] = t7 at *
  have g7 : Gw t6 t7 := by rw [← ht7]; exact Gw.app
  walk_at "wu"
  have adv : Adv q q6 100 := ((((a1.trans a2 (Int.le_refl _)).trans a3 (Int.le_refl _)).trans a5 (Int.le_refl _)).trans a6 (by omega))
  refine wp_for1 ?_
  walk_at "wu"
  refine wp_spoil1 (n := 18) (lo := t.length) (SeqT.box (g7.keep ky)) (fun k e => by injection e with e; omega) (by rw [List.length_map]; omega) (fun y hy => by obtain ⟨z, _, rfl⟩ := List.mem_map.mp hy; exact .inl ⟨z, rfl⟩) fun t8 gr8 => ?_
  walk_at "wu"
  refine wp_for1 ?_
  walk_at "wu"
  obtain ⟨u, su, ul, u0⟩ := (sy.gw g7).grown gr8
  rw [List.length_map] at ul
  have lo5 : ∀ k, y = .ref (k + 2) → t.length ≤ k := fun k e => by have := r5 k e; have := g2.len; have := g3.len; have := g4.len; omega
  refine wp_spoilG (n := 19) (lo := t.length) su lo5 (by rw [List.length_append]; omega) (fun i d t9 hd hi gr9 Q1 h => ?_) fun t9 gr9 => ?_
  · by_cases hi2 : i < yss.length
    · rw [List.getElem?_append_left hi2] at hd
      have hm9 := List.mem_of_getElem? hd
      obtain ⟨p, _, hp⟩ := paired_get zy hm9
      have hp7 : SqT t7 d p := hp.mono fun i l hi => g7.keep hi
      rw [List.length_map] at gr8
      exact wp_spoilS (n := 17) hp7 (gr8.trans gr9) (by omega) (fun k e => by have := (n5 d hm9).1 k e; have := g2.len; have := g3.len; have := g4.len; omega) (n5 d hm9).2 h
    · rw [List.getElem?_append_right (by omega)] at hd
      rw [spoil_lf (.inr (u0 d (List.mem_of_getElem? hd))), wpR_ok]
      exact h t9 ⟨rfl, fun _ => .inl rfl⟩
  · walk_at "wu"
    refine wp_for0 ?_
    have T9 := (T.grown gr8).grown gr9
    have g9 : Gw t t9 := ((gt6.trans g7).grown gr8 (Nat.le_refl _)).grown gr9 (Nat.le_refl _)
    have bx : ∀ {t : Sto} {l : List D}, tyL (stm q6 (t ++ [.lst l])) (.ref (t.length + 2)) = true := fun {t l} => tyL_stm last_get
    simp_all! [T9.insE]
    refine wpI_intro (by rfl) ?_
    have eb := cells_app (q := q6) (t := t9) (l := cs.map D.str) (d := .str "zz") (by rw [List.length_map]; omega)
    simp_all! [cellsB_M (q := q6) T9, bx, eb]
    have T10 := T9.gw (Gw.app (u := [Ob.lst (cs.map D.str ++ [.str "zz"])]))
    have g10 := g9.trans (Gw.app (u := [Ob.lst (cs.map D.str ++ [.str "zz"])]))
    generalize t9 ++ [Ob.lst (cs.map D.str ++ [.str "zz"])] = t10 at *
    simp_all! [T10.insE]
    refine wpI_intro (by rfl) ?_
    have eb := cells_app (q := q6) (t := t10) (l := ws.map D.str) (d := .str "zz") (by rw [List.length_map]; omega)
    simp_all! [waysB_M (q := q6) T10, bx, eb]
    have T11 := T10.gw (Gw.app (u := [Ob.lst (ws.map D.str ++ [.str "zz"])]))
    have g11 := g10.trans (Gw.app (u := [Ob.lst (ws.map D.str ++ [.str "zz"])]))
    generalize t10 ++ [Ob.lst (ws.map D.str ++ [.str "zz"])] = t11 at *
    simp_all! [T11.insE]
    refine wpI_intro (by rfl) ?_
    have eb := cells_app (q := q6) (t := t11) (l := m.map sqD) (d := .tup [.str "zz", .str "zz"]) (by rw [List.length_map]; omega)
    simp_all! [squaresB_M (q := q6) T11, bx, eb]
    exact hQ q6 _ _ _ (g11.trans Gw.app) (adv.mono (by decide)) (T11.gw Gw.app) (by omega) (by omega)
end
end MP


set_option Elab.async false
set_option linter.all false
set_option maxRecDepth 100000
set_option maxHeartbeats 16000000
/-! KT7: what a sign makes of two lists, the law's; tables compared; what a table tells, compared -/
namespace MP
variable [Wd]
open PySem L2
section
variable {q : Sp0} {t : Sto} {Q : D → Sto → Prop} {E : XP} {P b P2 b2 : Nat} {cs ws cs2 ws2 : List Str} {m m2 : List Sq}
/-- a comprehension that picks squares -/
theorem pick_sq {s : Sto} {c : MT} {ρ : Env} {i : Nat} {α : Sq → Bool} {l : List Sq} (hi : i < ρ.length) (hc : ∀ p ∈ l, wpR (c (ρ.set i (some (sqD p))) s) (fun k s' => k = α p ∧ s' = s) (fun _ _ => False)) :
    lcL any_ (gmName i) c (mVar i) ρ (l.map sqD) s = some (.ok ((l.filter α).map sqD) s) := by
  rw [lcL_pureG (by trivial) (fun d => if α (sqOf d) then some d else none) (fun d hd => ?_)]
  · congr 2
    generalize l = l
    induction l with
    | nil => rfl
    | cons p l ih =>
      rw [List.map_cons, List.filterMap_cons, List.filter_cons, sqOf_eq]
      cases α p with
      | true => simp only [if_true, List.map_cons, ih]
      | false => simp only [Bool.false_eq_true, if_false, ih]
  · obtain ⟨p, hp, rfl⟩ := List.mem_map.mp hd
    refine ⟨ρ.set i (some (sqD p)), by unfold gmName; rfl, ?_⟩
    have e := eq_wpT (hc p hp)
    rw [sqOf_eq]
    cases hk : α p with
    | true =>
      rw [hk] at e
      refine ⟨e, ?_⟩
      unfold mVar
      rw [List.getElem?_set_self hi]
    | false =>
      rw [hk] at e
      exact e
theorem fNotInD_sq {s : Sto} {L : List Sq} {b : Sq} (hL : ∀ a ∈ L, StrQ a) (hb : StrQ b) : fNotInD s (sqD b) (.lst (L.map sqD)) = some (.bl (!decide (b ∈ L))) := by
  unfold fNotInD
  rw [inD_sq hL hb]; rfl
theorem united_eq : ∀ (w : Nat), w ≤ 2 → ∀ {n : Nat} {a b : List Sq} {s : Sto}, (∀ p ∈ a, StrQ p) → (∀ p ∈ b, StrQ p) → a.length ≤ 100 → b.length ≤ 100 → l_united (n + 1) [.int (w : Int), .lst (a.map sqD), .lst (b.map sqD)] s = some (.ok (.lst ((uni w a b).map sqD)) s) := by
  intro w hw n a b s ha hb la lb
  refine eq_wp ?_
  unfold l_united
  refine wp_fn (by simp) ?_
  walk_at "wu"
  refine wpB_dec (fun e => ?_) (fun e => ?_)
  · obtain rfl : w = 0 := by omega
    walk_at "wu"
    refine wpI_intro (by rw [List.length_map]; omega) ?_
    rw [pick_sq (α := fun x => !decide (x ∈ a)) (by simp) fun p hp => by
      simp_all! [fNotInD_sq ha (hb p hp)]
      exact ⟨by trivial, by trivial⟩]
    have fl := List.length_filter_le (fun x => !decide (x ∈ a)) b
    simp_all! [fAdd_lst]
    rw [if_pos (by rw [List.length_map, List.length_map]; omega), wpO_some, ← List.map_append]
    simp_all! [gSortP_sq (show lst? s (.lst ((a ++ b.filter fun x => !decide (x ∈ a)).map sqD)) = some _ from rfl)]
    exact ⟨by trivial, by trivial⟩
  walk_at "wu"
  refine wpB_dec (fun e => ?_) (fun e => ?_)
  · obtain rfl : w = 1 := by omega
    walk_at "wu"
    refine wpI_intro (by rw [List.length_map]; omega) ?_
    rw [pick_sq (α := fun x => decide (x ∈ b)) (by simp) fun p hp => by
      simp_all! [fInD_sq hb (ha p hp)]
      exact ⟨by trivial, by trivial⟩]
    walk_at "wu"
    exact ⟨by trivial, by trivial⟩
  walk_at "wu"
  refine wpB_dec (fun e => ?_) (fun e => ?_)
  · obtain rfl : w = 2 := by omega
    walk_at "wu"
    refine wpI_intro (by rw [List.length_map]; omega) ?_
    rw [pick_sq (α := fun x => !decide (x ∈ b)) (by simp) fun p hp => by
      simp_all! [fNotInD_sq hb (ha p hp)]
      exact ⟨by trivial, by trivial⟩]
    walk_at "wu"
    exact ⟨by trivial, by trivial⟩
  · omega
theorem united_all {w n : Nat} (hw : w ≤ 3) {a b : List Sq} {s : Sto} (ha : ∀ p ∈ a, StrQ p) (hb : ∀ p ∈ b, StrQ p) (la : a.length ≤ 100) (lb : b.length ≤ 100) : l_united (n + 2) [.int (w : Int), .lst (a.map sqD), .lst (b.map sqD)] s = some (.ok (.lst ((uni w a b).map sqD)) s) := by
  by_cases h : w ≤ 2
  · exact united_eq w h (n := n + 1) ha hb la lb
  · obtain rfl : w = 3 := by omega
    refine eq_wp ?_
    unfold l_united
    refine wp_fn (by simp) ?_
    walk_at "wu"
    refine wpB_dec (fun e => by omega) (fun e => ?_)
    walk_at "wu"
    refine wpB_dec (fun e => by omega) (fun e => ?_)
    walk_at "wu"
    refine wpB_dec (fun e => by omega) (fun e => ?_)
    have f1 := List.length_filter_le (fun x => !decide (x ∈ b)) a
    have f2 := List.length_filter_le (fun x => !decide (x ∈ a)) b
    have e1 : l_united (n + 1) [.int 2, .lst (a.map sqD), .lst (b.map sqD)] s = some (.ok (.lst ((uni 2 a b).map sqD)) s) := united_eq 2 (by decide) (n := n) (a := a) (b := b) (s := s) ha hb la lb
    have e2 : l_united (n + 1) [.int 2, .lst (b.map sqD), .lst (a.map sqD)] s = some (.ok (.lst ((uni 2 b a).map sqD)) s) := united_eq 2 (by decide) (n := n) (a := b) (b := a) (s := s) hb ha lb la
    have e3 : l_united (n + 1) [.int 0, .lst ((uni 2 a b).map sqD), .lst ((uni 2 b a).map sqD)] s = some (.ok (.lst ((uni 0 (uni 2 a b) (uni 2 b a)).map sqD)) s) := united_eq 0 (by decide) (n := n) (a := uni 2 a b) (b := uni 2 b a) (s := s) (fun p hp => ha p (List.mem_filter.mp hp).1) (fun p hp => hb p (List.mem_filter.mp hp).1) (Nat.le_trans f1 la) (Nat.le_trans f2 lb)
    simp_all! [e1, e2, e3]
    exact ⟨by trivial, by trivial⟩
/-! ### tables compared -/
theorem eqv_strs2 : ∀ {l k : List Str}, PyData.eqvAll (l.map PyData.str) (k.map PyData.str) = decide (l = k)
  | [], [] => rfl
  | [], _ :: _ => rfl
  | _ :: _, [] => rfl
  | a :: l, b :: k => by
    rw [List.map_cons, List.map_cons]
    unfold PyData.eqvAll
    rw [eqv_strs2]
    have : PyData.eqv (.str a) (.str b) = decide (a = b) := by
      unfold PyData.eqv
      rw [Bool.eq_iff_iff]
      simp
    rw [this, Bool.eq_iff_iff]
    simp
theorem fEq_strs2 {s : Sto} {l k : List Str} (h : ∀ z ∈ l, PyData.strOk z = true) (h2 : ∀ z ∈ k, PyData.strOk z = true) : fEq s (.lst (l.map .str)) (.lst (k.map .str)) = some (.bl (decide (l = k))) := by
  have sh : ∀ {l : List Str}, (∀ z ∈ l, PyData.strOk z = true) → SeqAt.shaped (.list (l.map PyData.str)) = true := fun {l} h => by
    have e := fEq_strs (s := s) h
    unfold fEq eqD at e
    rw [show pyS s (.lst (l.map .str)) = (pyL (l.map .str)).map PyData.list from rfl, pyL_strs] at e
    dsimp only [Option.map_some] at e
    cases hs : SeqAt.shaped (.list (l.map PyData.str)) with
    | true => rfl
    | false =>
      rw [hs] at e
      simp at e
  unfold fEq eqD
  rw [show pyS s (.lst (l.map .str)) = (pyL (l.map .str)).map PyData.list from rfl, show pyS s (.lst (k.map .str)) = (pyL (k.map .str)).map PyData.list from rfl, pyL_strs, pyL_strs]
  dsimp only [Option.map_some]
  rw [sh h, sh h2, if_pos (by rfl)]
  unfold PyData.eqv
  rw [eqv_strs2]
  rfl
theorem kd_tab (h : TabM t P b cs ws m) : kdD (stm q t) (.ref (P + 2)) = some (.o "Table") := by
  unfold kdD
  dsimp only
  rw [stm_get, h.ins]
theorem eq_M (h : TabM t P b cs ws m) (h2 : TabM t P2 b2 cs2 ws2 m2) (hc : ∀ z ∈ cs, PyData.strOk z = true) (hw : ∀ z ∈ ws, PyData.strOk z = true) (hc2 : ∀ z ∈ cs2, PyData.strOk z = true) (hw2 : ∀ z ∈ ws2, PyData.strOk z = true) :
    c_Table_eq [.ref (P + 2), .ref (P2 + 2)] (stm q t) = some (.ok (.bl (decide (cs = cs2) && (decide (ws = ws2) && decide (m = m2)))) (stm q t)) := by
  refine eq_wp ?_
  unfold c_Table_eq
  refine wp_fn (by simp) ?_
  have sq1 : ∀ p ∈ m, StrQ p := fun p hp => ⟨hc _ (h.ok.sub p hp).1, hw _ (h.ok.sub p hp).2⟩
  have sq2 : ∀ p ∈ m2, StrQ p := fun p hp => ⟨hc2 _ (h2.ok.sub p hp).1, hw2 _ (h2.ok.sub p hp).2⟩
  have e1 : fEq (stm q t) (.lst (cs.map .str)) (.lst (cs2.map .str)) = some (.bl (decide (cs = cs2))) := fEq_strs2 hc hc2
  have e2 : fEq (stm q t) (.lst (ws.map .str)) (.lst (ws2.map .str)) = some (.bl (decide (ws = ws2))) := fEq_strs2 hw hw2
  have e3 : fEq (stm q t) (.lst (m.map sqD)) (.lst (m2.map sqD)) = some (.bl (decide (m = m2))) := fEq_sqs sq1 sq2
  have kd : (kdD (stm q t) (.ref (P2 + 2))).bind isC_Table = some true := by rw [kd_tab h2]; rfl
  simp_all! [kd, Bool.not_true, ins_stm h.ins, ins_stm h2.ins, Option.bind_some, fld_cn (cs := cs) (ws := ws), fld_cn (cs := cs2) (ws := ws2), fld_wn (cs := cs) (ws := ws), fld_wn (cs := cs2) (ws := ws2), e1]
  cases hcc : decide (cs = cs2) with
  | false =>
    walk_at "wu"
    exact ⟨by trivial, by trivial⟩
  | true =>
    simp_all! [ins_stm h.ins, ins_stm h2.ins, Option.bind_some, fld_wn (cs := cs) (ws := ws), fld_wn (cs := cs2) (ws := ws2), e2]
    cases hww : decide (ws = ws2) with
    | false =>
      walk_at "wu"
      exact ⟨by trivial, by trivial⟩
    | true =>
      simp_all! [h.insE]
      refine wpI_intro (by rfl) ?_
      simp_all! [squares_M (q := q) h, h2.insE]
      refine wpI_intro (by rfl) ?_
      simp_all! [squares_M (q := q) h2, e3]
      exact ⟨by simp, by trivial⟩
theorem eq_no {x : D} {s : Sto} (hx : (kdD s x).bind isC_Table = some false) : c_Table_eq [.ref (P + 2), x] s = some (.ok (.bl false) s) := by
  refine eq_wp ?_
  unfold c_Table_eq
  refine wp_fn (by simp) ?_
  simp_all! [hx, Bool.not_false]
  exact ⟨by trivial, by trivial⟩
/-! ### shown -/
theorem rs_int {s : Sto} {n : Nat} {i : Int} (h : i.natAbs < 10 ^ 30) : Rs s n (.int i) (.int i) 1921 := ⟨fun N hN => by obtain ⟨M, rfl⟩ : ∃ M, N = M + 1 := ⟨N - 1, by omega⟩; rfl, shows_int h⟩
theorem rs_bl {s : Sto} {n : Nat} {b : Bool} : Rs s n (.bl b) (.bool b) 5 := ⟨fun N hN => by obtain ⟨M, rfl⟩ : ∃ M, N = M + 1 := ⟨N - 1, by omega⟩; rfl, shows_bl⟩
theorem rs_names {s : Sto} {l : List Str} (h : ∀ z ∈ l, NameOk z) (hl : l.length ≤ 10) : ∃ p, Rs s 5 (.lst (l.map .str)) p 2000 := by
  obtain ⟨ps, r⟩ := rs_lst (s := s) (n := 4) (m := 10) (ds := l.map .str) fun d hd => by
    obtain ⟨z, hz, rfl⟩ := List.mem_map.mp hd
    exact ⟨_, rs_name (h z hz)⟩
  refine ⟨_, r.up ?_⟩
  rw [List.length_map]
  omega
theorem rs_sqs9 {s : Sto} {l : List Sq} (h : ∀ p ∈ l, NameOk p.1 ∧ NameOk p.2) (hl : l.length ≤ 20) : ∃ p, Rs s 5 (.lst (l.map sqD)) p 2000 := by
  obtain ⟨ps, r⟩ := rs_lst (s := s) (n := 4) (m := 28) (ds := l.map sqD) fun d hd => by
    obtain ⟨p, hp, rfl⟩ := List.mem_map.mp hd
    obtain ⟨ps, r⟩ := rs_tup (s := s) (n := 3) (m := 10) (ds := [.str p.1, .str p.2]) fun d hd => by
      simp only [List.mem_cons, List.not_mem_nil, or_false] at hd
      rcases hd with rfl | rfl
      · exact ⟨_, rs_name (h p hp).1⟩
      · exact ⟨_, rs_name (h p hp).2⟩
    exact ⟨_, r⟩
  refine ⟨_, r.up ?_⟩
  rw [List.length_map]
  omega
theorem repr_bls {s : Sto} {l : List Bool} (hl : l.length ≤ 10) : ∃ z, gRepr s [.lst (l.map .bl)] = some (.str z) := by
  obtain ⟨ps, r⟩ := rs_lst (s := s) (n := 4) (m := 5) (ds := l.map .bl) fun d hd => by
    obtain ⟨z, hz, rfl⟩ := List.mem_map.mp hd
    exact ⟨_, rs_bl⟩
  exact r.repr_l (by decide) (by rw [List.length_map]; omega)
theorem repr_told9 {s : Sto} {i : Int} (g : Gr cs ws) (hm : SqOk cs ws m) (hi : i.natAbs < 10 ^ 30) : ∃ z, gRepr s [.lst [.lst (cs.map .str), .lst (ws.map .str), .lst (m.map sqD), .int i]] = some (.str z) := by
  have l1 := g.g.cl
  have l2 := g.g.wl
  have l3 := hm.len
  have l4 : cs.length * ws.length ≤ 3 * 4 := Nat.mul_le_mul l1 l2
  obtain ⟨ps, r⟩ := rs_lst (s := s) (n := 5) (m := 2000) (ds := [.lst (cs.map .str), .lst (ws.map .str), .lst (m.map sqD), .int i]) fun d hd => by
    simp only [List.mem_cons, List.not_mem_nil, or_false] at hd
    rcases hd with rfl | rfl | rfl | rfl
    · exact rs_names g.g.co (by omega)
    · exact rs_names g.g.wo (by omega)
    · exact rs_sqs9 (fun p hp => ⟨g.g.co _ (hm.sub p hp).1, g.g.wo _ (hm.sub p hp).2⟩) (by omega)
    · exact ⟨_, (rs_int hi).up (by decide)⟩
  exact r.repr_l (by decide) (by simp)
theorem wp_shows (h : TabM t P b cs ws m) (g : Gr cs ws) (hQ : ∀ t', Gw t t' → Q (.bl true) (stm q t')) : wpR (l_table_shows [.ref (P + 2), .lst (cs.map .str), .lst (ws.map .str), .lst (m.map sqD)] (stm q t)) Q E := by
  have l1 := g.g.cl
  have l2 := g.g.wl
  have l3 := h.len12 g
  unfold l_table_shows
  refine wp_fn (by simp) ?_
  obtain ⟨z, hz⟩ := repr_told9 (s := stm q t) (i := (m.length : Int)) g h.ok (Nat.lt_of_le_of_lt (show _ ≤ 12 by omega) (by decide))
  simp_all! [h.insE]
  refine wpI_intro (by rfl) ?_
  simp_all! [cells_M (q := q) h, h.insE]
  refine wpI_intro (by rfl) ?_
  simp_all! [ways_M (q := q) h, h.insE]
  refine wpI_intro (by rfl) ?_
  simp_all! [squares_M (q := q) h, h.insE, Option.isSome_some, len_M (q := q) h]
  refine wpI_intro ⟨by omega, by omega⟩ ?_
  simp_all! [List.length_map]
  refine wp_same hz hz ?_
  simp_all! [Bool.not_true]
  refine wp_squares (by omega) (by omega) ?_
  have T2 := h.gw (Gw.app (u := [Ob.lst ((allQ cs ws).map sqD)]))
  have hk : (t ++ [Ob.lst ((allQ cs ws).map sqD)])[t.length]? = some (.lst ((allQ cs ws).map sqD)) := last_get
  have g2 : Gw t (t ++ [Ob.lst ((allQ cs ws).map sqD)]) := Gw.app
  generalize t ++ [Ob.lst ((allQ cs ws).map sqD)] = t2 at *
  simp_all! [seqOf_stm hk]
  have hq2 := g.strQ T2.ok
  refine wp_for (fun rest ρ s => ∃ (l : List Sq) (o4 o5 o6 o7 o8 : Option D), rest = l.map sqD ∧ (∀ p ∈ l, p ∈ allQ cs ws) ∧ ρ = [some (.ref (P + 2)), some (.lst (cs.map .str)), some (.lst (ws.map .str)), some (.lst (m.map sqD)), o4, o5, o6, o7, o8] ∧ s = stm q t2) ?_ ?_ ⟨allQ cs ws, _, _, _, _, _, rfl, fun _ h => h, rfl, rfl⟩
  · rintro y rest ρ s ⟨l, o4, o5, o6, o7, o8, hr, hl, rfl, rfl⟩
    refine ⟨?_, ?_⟩
    · show (stm q t2)[t.length + 2]? = _
      rw [stm_get, hk]
    cases l with
    | nil => cases hr
    | cons p l =>
      injection hr with hr1 hr2
      subst hr1 hr2
      obtain ⟨pc, pw⟩ := allQ_mem.mp (hl p List.mem_cons_self)
      have sp : StrQ p := ⟨(g.g.co _ pc).str, (g.g.wo _ pw).str⟩
      have i1 := item_M (q := q) (x := .tup [.str p.1, .str p.2]) T2 SqT.tup pc pw
      have i2 := item_M (q := q) (x := .lst [.str p.1, .str p.2]) T2 SqT.lst pc pw
      have i3 := has_M (q := q) (x := sqD p) T2 g SqT.tup sp
      have i4 := has_M (q := q) (x := .lst [.str p.1, .str p.2]) T2 g SqT.lst sp
      have i5 := fInD_sq (s := stm q t2) hq2 sp
      have ea : ∀ (a b c d : Bool), fAdd (stm q t2) (.lst [.bl a, .bl b]) (.lst [.bl c, .bl d]) = some (.lst [.bl a, .bl b, .bl c, .bl d]) := fun _ _ _ _ => rfl
      have em : ∀ a : Bool, fMulL (stm q t2) (.lst [.bl a]) (.int 4) = some (.lst [.bl a, .bl a, .bl a, .bl a]) := fun _ => rfl
      obtain ⟨z2, hz2⟩ := repr_bls (s := stm q t2) (l := [decide (p ∈ m), decide (p ∈ m), decide (p ∈ m), decide (p ∈ m)]) (by simp)
      have hz2 : gRepr (stm q t2) [.lst [.bl (decide (p ∈ m)), .bl (decide (p ∈ m)), .bl (decide (p ∈ m)), .bl (decide (p ∈ m))]] = some (.str z2) := hz2
      rw [show sqD p = .tup [.str p.1, .str p.2] from rfl] at i3 i5 ⊢
      simp_all! [T2.insE, Option.isSome_some, i1, i2, ↓wp_mInO, i3, i4, ea, i5, em]
      refine wp_same hz2 hz2 ?_
      simp_all! [Bool.not_true]
      exact ⟨l, _, _, _, _, _, rfl, fun p hp => hl p (List.mem_cons_of_mem _ hp), by first | rfl | trivial, by first | rfl | trivial⟩
  · rintro ρ s ⟨l, o4, o5, o6, o7, o8, hr, hl, rfl, rfl⟩
    refine ⟨?_, ?_⟩
    · show (stm q t2)[t.length + 2]? = _
      rw [stm_get, hk]
    walk_at "wu"
    exact hQ t2 g2
end
end MP


set_option Elab.async false
set_option linter.all false
set_option maxRecDepth 100000
set_option maxHeartbeats 32000000
/-! KT8: three tables and their models; a deed -/
namespace MP
variable [Wd]
open PySem L2
structure Ent where
  P : Nat
  b : Nat
  m : List Sq
def Ent.t (e : Ent) : D := .ref (e.P + 2)
def Ent.d (e : Ent) : D := .lst (e.m.map sqD)
structure LawT (t : Sto) (T M : Nat) (cs ws : List Str) (ts : List Ent) : Prop where
  tb : t[T]? = some (.lst (ts.map Ent.t))
  mb : t[M]? = some (.lst (ts.map Ent.d))
  ent : ∀ e ∈ ts, TabM t e.P e.b cs ws e.m
  ap : ∀ (i j : Nat) (e f : Ent), ts[i]? = some e → ts[j]? = some f → i ≠ j → e.P ≠ f.P ∧ e.b ≠ f.b
  l3 : ts.length = 3
section
variable {q : Sp0} {t : Sto} {Q : D → Sto → Prop} {E : XP} {T M : Nat} {cs ws : List Str} {ts : List Ent}
theorem fNe_sqs {s : Sto} {l m : List Sq} (h1 : ∀ p ∈ l, StrQ p) (h2 : ∀ p ∈ m, StrQ p) : fNe s (.lst (l.map sqD)) (.lst (m.map sqD)) = some (.bl (!decide (l = m))) := by
  have e := fEq_sqs (s := s) h1 h2
  unfold fEq at e
  unfold fNe
  cases hq : eqD s (.lst (l.map sqD)) (.lst (m.map sqD)) with
  | none => rw [hq] at e; cases e
  | some k =>
    rw [hq] at e
    obtain rfl : k = decide (l = m) := by
      injection e with e
      injection e
    rfl
theorem zip_boxes (h1 : t[T]? = some (.lst (ts.map Ent.t))) (h2 : t[M]? = some (.lst (ts.map Ent.d))) : zip? (stm q t) [.ref (T + 2), .ref (M + 2)] = some (ts.map fun e => .tup [e.t, e.d], fun s => (s[T + 2]? = some (.lst (ts.map Ent.t))) ∧ s[M + 2]? = some (.lst (ts.map Ent.d))) := by
  unfold zip?
  dsimp only
  rw [seqOf_stm h1, seqOf_stm h2]
  dsimp only
  congr 2
  unfold zipD
  rw [List.zipWith_map, List.zipWith_self]
theorem wp_compared (h : LawT t T M cs ws ts) (g : Gr cs ws) (hQ : Q (.bl true) (stm q t)) : wpR (l_compared [.ref (T + 2), .ref (M + 2)] (stm q t)) Q E := by
  unfold l_compared
  refine wp_fn (by simp) ?_
  have hc : ∀ z ∈ cs, PyData.strOk z = true := fun z hz => (g.g.co z hz).str
  have hw : ∀ z ∈ ws, PyData.strOk z = true := fun z hz => (g.g.wo z hz).str
  have hG : (fun s : Sto => (s[T + 2]? = some (.lst (ts.map Ent.t))) ∧ s[M + 2]? = some (.lst (ts.map Ent.d))) (stm q t) := ⟨by rw [stm_get]; exact h.tb, by rw [stm_get]; exact h.mb⟩
  simp_all! [zip_boxes (q := q) h.tb h.mb]
  refine wp_for (fun rest ρ s => ∃ (l : List Ent) (o2 o3 o4 o5 o6 o7 o8 : Option D), rest = l.map (fun e => .tup [e.t, e.d]) ∧ (∀ e ∈ l, e ∈ ts) ∧ ρ = [some (.ref (T + 2)), some (.ref (M + 2)), o2, o3, o4, o5, o6, o7, o8] ∧ s = stm q t) ?_ ?_ ⟨ts, _, _, _, _, _, _, _, rfl, fun _ h => h, rfl, rfl⟩
  · rintro y rest ρ s ⟨l, o2, o3, o4, o5, o6, o7, o8, hr, hl, rfl, rfl⟩
    refine ⟨hG, ?_⟩
    cases l with
    | nil => cases hr
    | cons e l =>
      injection hr with hr1 hr2
      subst hr1 hr2
      have Te := h.ent e (hl e List.mem_cons_self)
      have le := Te.len12 g
      have se := g.strQ Te.ok
      simp_all! [zip_boxes (q := q) h.tb h.mb]
      refine wp_for (fun rest ρ s => ∃ (l : List Ent) (o4 o5 o6 o7 o8 : Option D), rest = l.map (fun e => .tup [e.t, e.d]) ∧ (∀ e ∈ l, e ∈ ts) ∧ ρ = [some (.ref (T + 2)), some (.ref (M + 2)), some e.t, some e.d, o4, o5, o6, o7, o8] ∧ s = stm q t) ?_ ?_ ⟨ts, _, _, _, _, _, rfl, fun _ h => h, rfl, rfl⟩
      · rintro y rest ρ s ⟨l2, p4, p5, p6, p7, p8, hr, hl2, rfl, rfl⟩
        refine ⟨hG, ?_⟩
        cases l2 with
        | nil => cases hr
        | cons e2 l2 =>
          injection hr with hr1 hr2
          subst hr1 hr2
          have Te2 := h.ent e2 (hl2 e2 List.mem_cons_self)
          have le2 := Te2.len12 g
          have se2 := g.strQ Te2.ok
          have q1 := eq_M (q := q) Te Te2 hc hw hc hw
          have q2 := within_M (q := q) Te Te2 g
          have q3 := fEq_sqs (s := stm q t) se se2
          have q4 := fNe_sqs (s := stm q t) se se2
          rw [decide_eq_true (rfl : cs = cs), decide_eq_true (rfl : ws = ws), Bool.true_and, Bool.true_and] at q1
          obtain ⟨z, hz⟩ := repr_bls (s := stm q t) (l := [decide (e.m = e2.m), !decide (e.m = e2.m), e.m.all fun p => decide (p ∈ e2.m)]) (by simp)
          have hz : gRepr (stm q t) [.lst [.bl (decide (e.m = e2.m)), .bl (!decide (e.m = e2.m)), .bl (e.m.all fun p => decide (p ∈ e2.m))]] = some (.str z) := hz
          dsimp only [Ent.t, Ent.d]
          simp_all! [Te.insE, Option.isSome_some, kd_tab (q := q) Te2, show okE_Table (.o "Table") = true from rfl, q1]
          refine wpI_intro (by rfl) ?_
          simp_all! [q2]
          refine wpI_intro (by rw [List.length_map]; omega) ?_
          rw [lcL_pureG (by trivial) (fun d => some (.bl (decide (sqOf d ∈ e2.m)))) (fun d hd => ?_)]
          · have ef : (e.m.map sqD).filterMap (fun d => some (D.bl (decide (sqOf d ∈ e2.m)))) = e.m.map fun p => D.bl (decide (p ∈ e2.m)) := by
              generalize e.m = l
              induction l with
              | nil => rfl
              | cons p l ih => rw [List.map_cons, List.filterMap_cons]; dsimp only; rw [ih, sqOf_eq, List.map_cons]
            rw [ef]
            simp_all! [gAll_map, q3, q4]
            refine wp_same hz hz ?_
            simp_all! [Bool.not_true]
            exact ⟨l2, _, _, _, _, _, rfl, fun p hp => hl2 p (List.mem_cons_of_mem _ hp), by first | rfl | trivial, by first | rfl | trivial⟩
          · obtain ⟨p, hp, rfl⟩ := List.mem_map.mp hd
            refine ⟨_, rfl, rfl, eq_wp ?_⟩
            simp_all! [fInD_sq (s := stm q t) se2 (se p hp)]
            exact ⟨by trivial, by trivial⟩
      · rintro ρ s ⟨l2, p4, p5, p6, p7, p8, hr, hl2, rfl, rfl⟩
        exact ⟨hG, l, _, _, _, _, _, _, _, rfl, fun p hp => hl p (List.mem_cons_of_mem _ hp), rfl, rfl⟩
  · rintro ρ s ⟨l, o2, o3, o4, o5, o6, o7, o8, hr, hl, rfl, rfl⟩
    refine ⟨hG, ?_⟩
    walk_at "wu"
    exact hQ
end
/-- one of the three is another one -/
theorem LawT.set {t t' : Sto} {T M : Nat} {cs ws : List Str} {ts : List Ent} (h : LawT t T M cs ws ts) {k : Nat} {e' : Ent} (hk : k < 3) (h1 : t'[T]? = some (.lst ((ts.map Ent.t).set k e'.t))) (h2 : t'[M]? = some (.lst ((ts.map Ent.d).set k e'.d)))
    (h3 : TabM t' e'.P e'.b cs ws e'.m) (h4 : ∀ j e, j ≠ k → ts[j]? = some e → t'[e.P]? = t[e.P]? ∧ t'[e.b]? = t[e.b]?) (h5 : ∀ j e, j ≠ k → ts[j]? = some e → e.P ≠ e'.P ∧ e.b ≠ e'.b) : LawT t' T M cs ws (ts.set k e') := by
  have hl := h.l3
  have get : ∀ {i : Nat} {e : Ent}, (ts.set k e')[i]? = some e → (i = k ∧ e = e') ∨ (i ≠ k ∧ ts[i]? = some e) := fun {i e} hi => by
    by_cases ei : k = i
    · subst ei
      rw [List.getElem?_set_self (by omega)] at hi
      exact .inl ⟨rfl, (Option.some.inj hi).symm⟩
    · rw [List.getElem?_set_ne ei] at hi
      exact .inr ⟨fun z => ei z.symm, hi⟩
  refine ⟨by rw [List.map_set]; exact h1, by rw [List.map_set]; exact h2, fun e he => ?_, fun i j e f he hf hij => ?_, by rw [List.length_set]; exact hl⟩
  · obtain ⟨j, hj⟩ := List.getElem?_of_mem he
    rcases get hj with ⟨_, rfl⟩ | ⟨n, hj⟩
    · exact h3
    · obtain ⟨a1, a2⟩ := h4 j e n hj
      exact (h.ent e (List.mem_of_getElem? hj)).mono a1 a2
  · rcases get he with ⟨rfl, rfl⟩ | ⟨n1, he'⟩ <;> rcases get hf with ⟨rfl, rfl⟩ | ⟨n2, hf'⟩
    · exact absurd rfl hij
    · obtain ⟨a1, a2⟩ := h5 j f n2 hf'
      exact ⟨fun z => a1 z.symm, fun z => a2 z.symm⟩
    · exact h5 i e n1 he'
    · exact h.ap i j e f he' hf' hij
theorem LawT.apart {t : Sto} {T M : Nat} {cs ws : List Str} {ts : List Ent} (h : LawT t T M cs ws ts) {j k : Nat} {e f : Ent} (hj : ts[j]? = some e) (hk : ts[k]? = some f) (hn : j ≠ k) : e.P ≠ f.P ∧ e.b ≠ f.b ∧ e.P ≠ f.b ∧ e.b ≠ f.P := by
  have Te := h.ent e (List.mem_of_getElem? hj)
  have Tf := h.ent f (List.mem_of_getElem? hk)
  obtain ⟨sq, a1, a2, _⟩ := Te.at_
  obtain ⟨sq2, c1, c2, _⟩ := Tf.at_
  exact ⟨(h.ap j k e f hj hk hn).1, (h.ap j k e f hj hk hn).2, (fun e9 => by rw [e9, c2] at a1; cases a1), (fun e9 => by rw [e9, c1] at a2; cases a2)⟩
/-- neither the list of tables nor that of models is a table or its dict -/
theorem LawT.box {t : Sto} {T M : Nat} {cs ws : List Str} {ts : List Ent} (h : LawT t T M cs ws ts) {e : Ent} (he : e ∈ ts) : T ≠ e.P ∧ T ≠ e.b ∧ M ≠ e.P ∧ M ≠ e.b := by
  obtain ⟨sq, a1, a2, _⟩ := (h.ent e he).at_
  refine ⟨fun e9 => ?_, fun e9 => ?_, fun e9 => ?_, fun e9 => ?_⟩
  · rw [← e9, h.tb] at a1; cases a1
  · rw [← e9, h.tb] at a2; cases a2
  · rw [← e9, h.mb] at a1; cases a1
  · rw [← e9, h.mb] at a2; cases a2
theorem LawT.tm {t : Sto} {T M : Nat} {cs ws : List Str} {ts : List Ent} (h : LawT t T M cs ws ts) : T ≠ M := fun e => by
  have a := h.tb
  rw [e, h.mb] at a
  have hl := h.l3
  injection a with a
  injection a with a
  cases ts with
  | nil => cases hl
  | cons e l =>
    injection a with a
    cases a
end MP


set_option Elab.async false
set_option linter.all false
set_option maxRecDepth 100000
set_option maxHeartbeats 32000000
/-! KT9: a deed -/
namespace MP
variable [Wd]
open PySem L2
section
variable {q : Sp0} {t : Sto} {Q : D → Sto → Prop} {E : XP} {T M S : Nat} {cs ws : List Str} {ts : List Ent}
theorem LawT.get {k : Nat} (h : LawT t T M cs ws ts) (hk : k < 3) : ∃ e, ts[k]? = some e ∧ e ∈ ts := ⟨ts[k]'(by rw [h.l3]; exact hk), List.getElem?_eq_getElem (by rw [h.l3]; exact hk), List.getElem_mem _⟩
theorem LawT.ixT {k : Nat} {e : Ent} (h : LawT t T M cs ws ts) (he : ts[k]? = some e) : fIx (stm q t) (.ref (T + 2)) (.int (k : Int)) = some (.ref (e.P + 2)) := by
  rw [fIx_stm h.tb, atI_nat (x := e.t) (by rw [List.getElem?_map, he]; rfl)]
  rfl
theorem LawT.ixM {k : Nat} {e : Ent} (h : LawT t T M cs ws ts) (he : ts[k]? = some e) : fIx (stm q t) (.ref (M + 2)) (.int (k : Int)) = some (.lst (e.m.map sqD)) := by
  rw [fIx_stm h.mb, atI_nat (x := e.d) (by rw [List.getElem?_map, he]; rfl)]
  rfl
theorem allQ_len (cs ws : List Str) : (allQ cs ws).length = cs.length * ws.length := by
  unfold allQ
  induction cs with
  | nil => simp
  | cons c cs ih => rw [List.flatMap_cons, List.length_append, ih, List.length_map, List.length_cons, Nat.add_mul]; omega
theorem fNil_box {l : List D} {k : Nat} (h : t[k]? = some (.lst l)) : fNil true (stm q t) (.ref (k + 2)) (.lst []) = some (.bl (!decide (l = []))) := by
  unfold fNil
  have e1 := lst_stm (q := q) h
  simp only [e1]
  cases l <;> rfl
/-- what stays beside a deed -/
theorem wp_deed (hq : q.Ok) (hb : q.b < 8000000) (h : LawT t T M cs ws ts) (g : Gr cs ws) (hS : t[S]? = some (.lst ((allQ cs ws).map sqD))) (hST : S ≠ T) (hSM : S ≠ M)
    (hQ : ∀ (q' : Sp0) (t' : Sto) (ts' : List Ent), Adv q q' 10 → LawT t' T M cs ws ts' → t'[S]? = some (.lst ((allQ cs ws).map sqD)) → Q (.bl true) (stm q' t')) : wpR (l_deed [.ref 1, .ref (T + 2), .ref (M + 2), .ref (S + 2)] (stm q t)) Q E := by
  have l1 := g.g.cl
  have l2 := g.g.wl
  have hl3 := h.l3
  have lT := (List.getElem?_eq_some_iff.mp h.tb).1
  have lM := (List.getElem?_eq_some_iff.mp h.mb).1
  have lS := (List.getElem?_eq_some_iff.mp hS).1
  have hTM := h.tm
  unfold l_deed
  refine wp_fn (by simp) ?_
  walk_at "wu"
  refine wp_draw hq (by omega) (by decide) (by decide) fun k q1 hk a1 => ?_
  have b1 := a1.hi
  walk_at "wu"
  refine wp_draw a1.ok (by omega) (by decide) (by decide) fun j q2 hj a2 => ?_
  have b2 := a2.hi
  walk_at "wu"
  refine wp_draw a2.ok (by omega) (by decide) (by decide) fun w q3 hw a3 => ?_
  have b3 := a3.hi
  walk_at "wu"
  refine wp_draw a3.ok (by omega) (by decide) (by decide) fun kind q4 hkind a4 => ?_
  have b4 := a4.hi
  have a14 := ((a1.trans a2 (Int.le_refl _)).trans a3 (Int.le_refl _)).trans a4 (Int.le_refl _)
  obtain ⟨ek, hek, mek⟩ := h.get (k := k) (by omega)
  obtain ⟨ej, hej, mej⟩ := h.get (k := j) (by omega)
  have Tk := h.ent ek mek
  have Tj := h.ent ej mej
  have sk := g.strQ Tk.ok
  have sj := g.strQ Tj.ok
  have lk := Tk.len12 g
  have lj := Tj.len12 g
  -- the new table k, at the end of the store
  have fresh : ∀ (t1 : Sto) (P' : Nat) (m' : List Sq) (q5 : Sp0), Gw t t1 → t.length ≤ P' → TabM t1 P' (P' + 1) cs ws m' → Adv q q5 10 → LawT ((t1.set T (.lst ((ts.map Ent.t).set k (.ref (P' + 2))))).set M (.lst ((ts.map Ent.d).set k (.lst (m'.map sqD))))) T M cs ws (ts.set k ⟨P', P' + 1, m'⟩) := fun t1 P' m' q5 g1 hP T1 _ => by
    have n1 := g1.len
    obtain ⟨sq, c1, c2, _⟩ := T1.at_
    refine h.set (e' := ⟨P', P' + 1, m'⟩) (by omega) ?_ ?_ (T1.mono ?_ ?_) (fun i e hi he => ?_) fun i e hi he => ?_
    · rw [List.getElem?_set_ne (fun z => hTM z.symm), List.getElem?_set_self (by omega)]; rfl
    · rw [List.getElem?_set_self (by rw [List.length_set]; omega)]; rfl
    · rw [List.getElem?_set_ne (by omega), List.getElem?_set_ne (by omega)]
    · rw [List.getElem?_set_ne (by omega), List.getElem?_set_ne (by omega)]
    · have me := List.mem_of_getElem? he
      obtain ⟨x1, x2, x3, x4⟩ := h.box me
      obtain ⟨sq, d1, d2, _⟩ := (h.ent e me).at_
      rw [List.getElem?_set_ne x3, List.getElem?_set_ne x1, List.getElem?_set_ne x4, List.getElem?_set_ne x2]
      exact ⟨g1.at_ _ (List.getElem?_eq_some_iff.mp d1).1, g1.at_ _ (List.getElem?_eq_some_iff.mp d2).1⟩
    · have me := List.mem_of_getElem? he
      obtain ⟨sq, d1, d2, _⟩ := (h.ent e me).at_
      have := (List.getElem?_eq_some_iff.mp d1).1
      have := (List.getElem?_eq_some_iff.mp d2).1
      dsimp only
      exact ⟨by omega, by omega⟩
  have keepS : ∀ (t1 : Sto) (x y : Ob), t1[S]? = t[S]? → ((t1.set T x).set M y)[S]? = some (.lst ((allQ cs ws).map sqD)) := fun t1 x y e => by
    rw [List.getElem?_set_ne (fun z => hSM z.symm), List.getElem?_set_ne (fun z => hST z.symm), e, hS]
  have setT : (ts.map Ent.t).set k (.ref (ek.P + 2)) = ts.map Ent.t := by
    refine List.ext_getElem? fun i => ?_
    by_cases e : k = i
    · subst e
      rw [List.getElem?_set_self (by rw [List.length_map]; omega), List.getElem?_map, hek]
      rfl
    · rw [List.getElem?_set_ne e]
  obtain ⟨xT, xTb, xM, xMb⟩ := h.box mek
  have hSP : S ≠ ek.P ∧ S ≠ ek.b := by
    obtain ⟨sq, d1, d2, _⟩ := Tk.at_
    exact ⟨(fun e => by rw [e, d1] at hS; cases hS), (fun e => by rw [e, d2] at hS; cases hS)⟩
  walk_at "wu"
  refine wpB_dec (fun e0 => ?A) (fun e0 => ?B)
  case' A =>
    simp_all! [fNil_box (q := q4) hS]
    refine wpB_dec (fun he => ?A1) (fun he => ?A2)
  case A2 =>
    have hlen : 0 < (allQ cs ws).length := List.length_pos_iff.mpr fun z => he (by rw [z]; rfl)
    have hmax : (allQ cs ws).length ≤ 12 := by
      have e1 := allQ_len cs ws
      have : cs.length * ws.length ≤ 3 * 4 := Nat.mul_le_mul l1 l2
      omega
    walk_at "wu"
    refine wp_pick (n := (allQ cs ws).length) a14.ok (by omega) (by omega) (by omega) (fun q => by rw [gLen_stm hS, List.length_map]) fun i q5 hi a5 => ?_
    have b5 := a5.hi
    obtain ⟨p, hp⟩ : ∃ p, p = (allQ cs ws)[i] := ⟨_, rfl⟩
    have hpm : p ∈ allQ cs ws := by rw [hp]; exact List.getElem_mem _
    obtain ⟨pc, pw⟩ := allQ_mem.mp hpm
    have sp : StrQ p := ⟨(g.g.co _ pc).str, (g.g.wo _ pw).str⟩
    have one : SqOk cs ws [p] := ⟨by simp, by simp, fun y hy => by rw [List.mem_singleton] at hy; subst hy; exact ⟨pc, pw⟩⟩
    rw [fIx_stm hS, atI_nat (x := .tup [.str p.1, .str p.2]) (by rw [List.getElem?_map, List.getElem?_eq_getElem hi, ← hp]; rfl), wpO_some]
    walk_at "wu"
    refine wp_draw a5.ok (by omega) (by decide) (by decide) fun v q6 hv a6 => ?_
    have b6 := a6.hi
    simp_all! [h.ixT (q := q6) hek]
    refine wp_draw a6.ok (by omega) (by decide) (by decide) fun way q7 hway a7 => ?_
    have a17 := ((a14.trans a5 (Int.le_refl _)).trans a6 (Int.le_refl _)).trans a7 (by decide : (1 : Int) + 1 + 1 + 1 + 1 + 1 + 1 ≤ 10)
    obtain ⟨vb, hvb⟩ : ∃ b : Bool, b = decide ((v : Int) = 0) := ⟨_, rfl⟩
    rw [← hvb]
    have fin : ∀ (t1 : Sto), OneT t t1 ek.b ek.b → TabM t1 ek.P ek.b cs ws (uni (if vb then 0 else 2) ek.m [p]) → ∀ (o10 : Option D) (N : Env → Sto → Prop), (∀ ρ s, Q (.bl true) s → N ρ s) → wpS (mAsg (mCall (l_united 20) (mCons (mIfE (mTst (mVar 8)) (mC (.int 0)) (mC (.int 2))) (mCons (mOp fIx (mVar 2) (mVar 5)) (mCons (mLst (mCons (mTup (mCons (mVar 11) (mCons (mVar 12) (mNil)))) (mNil))) (mNil))))) (gmSub (mVar 2) (mVar 5)) [some (.ref 1), some (.ref (T + 2)), some (.ref (M + 2)), some (.ref (S + 2)), some (.int kind), some (.int k), some (.int j), some (.int way), some (.bl vb), some (.ref (ek.P + 2)), o10, some (.str p.1), some (.str p.2), none] (stm q7 t1)) N Q (fun _ _ => False) (fun _ _ => False) (fun x _ s => E x s) := fun t1 o1 T1 o10 N hN => by
      have mb1 : t1[M]? = some (.lst (ts.map Ent.d)) := (o1.at_ M lM xMb xMb).trans h.mb
      have tb1 : t1[T]? = some (.lst (ts.map Ent.t)) := (o1.at_ T lT xTb xTb).trans h.tb
      have n1 := o1.len
      have ix : fIx (stm q7 t1) (.ref (M + 2)) (.int (k : Int)) = some (.lst (ek.m.map sqD)) := by
        rw [fIx_stm mb1, atI_nat (x := ek.d) (by rw [List.getElem?_map, hek]; rfl)]
        rfl
      have un : ∀ vb : Bool, l_united 20 [.int (if vb then 0 else 2), .lst (ek.m.map sqD), .lst [.tup [.str p.1, .str p.2]]] (stm q7 t1) = some (.ok (.lst ((uni (if vb then 0 else 2) ek.m [p]).map sqD)) (stm q7 t1)) := fun vb => by
        cases vb with
        | true => exact united_all (w := 0) (n := 18) (b := [p]) (by decide) sk (fun y hy => by rw [List.mem_singleton] at hy; subst hy; exact sp) (by omega) (by simp)
        | false => exact united_all (w := 2) (n := 18) (b := [p]) (by decide) sk (fun y hy => by rw [List.mem_singleton] at hy; subst hy; exact sp) (by omega) (by simp)
      have un1 := un vb
      have sb := sub_stm (q := q7) (d := .lst ((uni (if vb then 0 else 2) ek.m [p]).map sqD)) mb1 (i := k) (by rw [List.length_map]; omega)
      have L2 : LawT (t1.set M (.lst ((ts.map Ent.d).set k (.lst ((uni (if vb then 0 else 2) ek.m [p]).map sqD))))) T M cs ws (ts.set k ⟨ek.P, ek.b, uni (if vb then 0 else 2) ek.m [p]⟩) := by
        refine h.set (e' := ⟨ek.P, ek.b, _⟩) (by omega) ?_ ?_ (T1.mono ?_ ?_) (fun i e hi he => ?_) fun i e hi he => ?_
        · rw [List.getElem?_set_ne (fun z => hTM z.symm), tb1]
          exact congrArg some (congrArg Ob.lst setT.symm)
        · rw [List.getElem?_set_self (by omega)]; rfl
        · rw [List.getElem?_set_ne xM]
        · rw [List.getElem?_set_ne xMb]
        · have me := List.mem_of_getElem? he
          obtain ⟨x1, x2, x3, x4⟩ := h.box me
          obtain ⟨y1, y2, y3, y4⟩ := h.apart he hek hi
          obtain ⟨sq, d1, d2, _⟩ := (h.ent e me).at_
          rw [List.getElem?_set_ne x3, List.getElem?_set_ne x4]
          exact ⟨o1.at_ _ (List.getElem?_eq_some_iff.mp d1).1 y3 y3, o1.at_ _ (List.getElem?_eq_some_iff.mp d2).1 y2 y2⟩
        · obtain ⟨y1, y2, y3, y4⟩ := h.apart he hek hi
          exact ⟨y1, y2⟩
      have hS2 : (t1.set M (.lst ((ts.map Ent.d).set k (.lst ((uni (if vb then 0 else 2) ek.m [p]).map sqD)))))[S]? = some (.lst ((allQ cs ws).map sqD)) := by
        rw [List.getElem?_set_ne (fun z => hSM z.symm), o1.at_ S lS hSP.2 hSP.2, hS]
      have done := hQ q7 _ _ a17 L2 hS2
      cases vb with
      | true =>
        simp_all! [ix]
        have un2 : l_united 20 [.int 0, .lst (ek.m.map sqD), .lst [.tup [.str p.1, .str p.2]]] (stm q7 t1) = some (.ok (.lst ((uni 0 ek.m [p]).map sqD)) (stm q7 t1)) := un1
        have sb2 : sub? (stm q7 t1) (.ref (M + 2)) (k : Int) (.lst ((uni 0 ek.m [p]).map sqD)) = some (stm q7 (t1.set M (.lst ((ts.map Ent.d).set k (.lst ((uni 0 ek.m [p]).map sqD)))))) := sb
        simp_all! [un2, sb2]
        exact hN _ _ done
      | false =>
        simp_all! [ix]
        have un2 : l_united 20 [.int 2, .lst (ek.m.map sqD), .lst [.tup [.str p.1, .str p.2]]] (stm q7 t1) = some (.ok (.lst ((uni 2 ek.m [p]).map sqD)) (stm q7 t1)) := un1
        have sb2 : sub? (stm q7 t1) (.ref (M + 2)) (k : Int) (.lst ((uni 2 ek.m [p]).map sqD)) = some (stm q7 (t1.set M (.lst ((ts.map Ent.d).set k (.lst ((uni 2 ek.m [p]).map sqD)))))) := sb
        simp_all! [un2, sb2]
        exact hN _ _ done
    walk_at "wu"
    refine wpB_dec (fun _ => ?_) (fun _ => ?_)
    · simp_all! [wp_mItSet, Tk.insE, Option.isSome_some]
      refine wp_setitem (x := .tup [.str p.1, .str p.2]) (p := p) Tk g SqT.tup pc pw fun t1 o1 T1 => fin t1 o1 T1 _ _ fun ρ s h => ?_
      walk_at "wu"
      exact h
    · simp_all! [wp_mItSet, Tk.insE, Option.isSome_some]
      refine wp_setitem (x := .lst [.str p.1, .str p.2]) (p := p) Tk g SqT.lst pc pw fun t1 o1 T1 => fin t1 o1 T1 _ _ fun ρ s h => ?_
      walk_at "wu"
      exact h
  all_goals
    clear e0
    walk_at "wu"
    refine wpB_dec (fun _ => ?_) (fun _ => ?_)
    · simp_all! [h.ixT (q := q4) hej, Tj.insE]
      refine wpI_intro (by rfl) ?_
      walk_at "wu"
      refine wp_twin Tj g fun t1 P' g1 lP T1 => ?_
      have sb1 := sub_stm (q := q4) (d := .ref (P' + 2)) (g1.keep h.tb) (i := k) (by rw [List.length_map]; omega)
      have mb1 : (t1.set T (.lst ((ts.map Ent.t).set k (.ref (P' + 2)))))[M]? = some (.lst (ts.map Ent.d)) := by rw [List.getElem?_set_ne hTM]; exact g1.keep h.mb
      have ix : fIx (stm q4 (t1.set T (.lst ((ts.map Ent.t).set k (.ref (P' + 2)))))) (.ref (M + 2)) (.int (j : Int)) = some (.lst (ej.m.map sqD)) := by
        rw [fIx_stm mb1, atI_nat (x := ej.d) (by rw [List.getElem?_map, hej]; rfl)]
        rfl
      have sb2 := sub_stm (q := q4) (d := .lst (ej.m.map sqD)) mb1 (i := k) (by rw [List.length_map]; omega)
      simp_all! [sb1, ix, sb2]
      exact hQ q4 _ _ (a14.mono (by decide)) (fresh t1 P' ej.m q4 g1 lP T1 (a14.mono (by decide))) (keepS t1 _ _ (g1.at_ S lS))
    walk_at "wu"
    refine wpB_dec (fun _ => ?_) (fun _ => ?_)
    · simp_all! [h.ixT (q := q4) hej, h.ixT (q := q4) hek]
      refine wp_signed (w := w) (by omega) Tj Tk g fun t1 P' g1 lP T1 => ?_
      have sb1 := sub_stm (q := q4) (d := .ref (P' + 2)) (g1.keep h.tb) (i := k) (by rw [List.length_map]; omega)
      have mb1 : (t1.set T (.lst ((ts.map Ent.t).set k (.ref (P' + 2)))))[M]? = some (.lst (ts.map Ent.d)) := by rw [List.getElem?_set_ne hTM]; exact g1.keep h.mb
      have ix : fIx (stm q4 (t1.set T (.lst ((ts.map Ent.t).set k (.ref (P' + 2)))))) (.ref (M + 2)) (.int (j : Int)) = some (.lst (ej.m.map sqD)) := by
        rw [fIx_stm mb1, atI_nat (x := ej.d) (by rw [List.getElem?_map, hej]; rfl)]
        rfl
      have ix2 : fIx (stm q4 (t1.set T (.lst ((ts.map Ent.t).set k (.ref (P' + 2)))))) (.ref (M + 2)) (.int (k : Int)) = some (.lst (ek.m.map sqD)) := by
        rw [fIx_stm mb1, atI_nat (x := ek.d) (by rw [List.getElem?_map, hek]; rfl)]
        rfl
      have un := united_all (w := w) (n := 18) (s := stm q4 (t1.set T (.lst ((ts.map Ent.t).set k (.ref (P' + 2)))))) (by omega) sj sk (by omega) (by omega)
      have sb2 := sub_stm (q := q4) (d := .lst ((uni w ej.m ek.m).map sqD)) mb1 (i := k) (by rw [List.length_map]; omega)
      simp_all! [sb1, ix, ix2, un, sb2]
      exact hQ q4 _ _ (a14.mono (by decide)) (fresh t1 P' _ q4 g1 lP T1 (a14.mono (by decide))) (keepS t1 _ _ (g1.at_ S lS))
    · simp_all! [h.ixT (q := q4) hej, h.ixT (q := q4) hek]
      refine wp_in_place (w := w) (by omega) Tk Tj g fun t1 b' o1 lb T1 => ?_
      have n1 := o1.len
      have tb0 : t1[T]? = some (.lst (ts.map Ent.t)) := (o1.at_ T lT xT xT).trans h.tb
      have sb1 := sub_stm (q := q4) (d := .ref (ek.P + 2)) tb0 (i := k) (by rw [List.length_map]; omega)
      rw [setT] at sb1
      have same : t1.set T (.lst (ts.map Ent.t)) = t1 := by
        refine List.ext_getElem? fun i => ?_
        by_cases e : T = i
        · subst e; rw [List.getElem?_set_self (by omega), tb0]
        · rw [List.getElem?_set_ne e]
      rw [same] at sb1
      have mb1 : t1[M]? = some (.lst (ts.map Ent.d)) := (o1.at_ M lM xM xM).trans h.mb
      have ix : fIx (stm q4 t1) (.ref (M + 2)) (.int (j : Int)) = some (.lst (ej.m.map sqD)) := by
        rw [fIx_stm mb1, atI_nat (x := ej.d) (by rw [List.getElem?_map, hej]; rfl)]
        rfl
      have ix2 : fIx (stm q4 t1) (.ref (M + 2)) (.int (k : Int)) = some (.lst (ek.m.map sqD)) := by
        rw [fIx_stm mb1, atI_nat (x := ek.d) (by rw [List.getElem?_map, hek]; rfl)]
        rfl
      have un := united_all (w := w) (n := 18) (s := stm q4 t1) (by omega) sk sj (by omega) (by omega)
      have sb2 := sub_stm (q := q4) (d := .lst ((uni w ek.m ej.m).map sqD)) mb1 (i := k) (by rw [List.length_map]; omega)
      have T2 : TabM (t1.set M (.lst ((ts.map Ent.d).set k (.lst ((uni w ek.m ej.m).map sqD))))) ek.P b' cs ws (uni w ek.m ej.m) := T1.mono (by rw [List.getElem?_set_ne xM]) (by rw [List.getElem?_set_ne (by omega)])
      have hm2 : (t1.set M (.lst ((ts.map Ent.d).set k (.lst ((uni w ek.m ej.m).map sqD)))))[M]? = some (.lst ((ts.map Ent.d).set k (.lst ((uni w ek.m ej.m).map sqD)))) := List.getElem?_set_self (by omega)
      have ix3 : fIx (stm q4 (t1.set M (.lst ((ts.map Ent.d).set k (.lst ((uni w ek.m ej.m).map sqD)))))) (.ref (M + 2)) (.int (k : Int)) = some (.lst ((uni w ek.m ej.m).map sqD)) := by
        rw [fIx_stm hm2, atI_nat (by rw [List.getElem?_set_self (by rw [List.length_map]; omega)])]
      have su := g.strQ T1.ok
      have L2 : LawT (t1.set M (.lst ((ts.map Ent.d).set k (.lst ((uni w ek.m ej.m).map sqD))))) T M cs ws (ts.set k ⟨ek.P, b', uni w ek.m ej.m⟩) := by
        refine h.set (e' := ⟨ek.P, b', _⟩) (by omega) ?_ ?_ T2 (fun i e hi he => ?_) fun i e hi he => ?_
        · rw [List.getElem?_set_ne (fun z => hTM z.symm), tb0]
          exact congrArg some (congrArg Ob.lst setT.symm)
        · exact hm2
        · have me := List.mem_of_getElem? he
          obtain ⟨x1, x2, x3, x4⟩ := h.box me
          obtain ⟨y1, y2, y3, y4⟩ := h.apart he hek hi
          obtain ⟨sq, d1, d2, _⟩ := (h.ent e me).at_
          rw [List.getElem?_set_ne x3, List.getElem?_set_ne x4]
          exact ⟨o1.at_ _ (List.getElem?_eq_some_iff.mp d1).1 y1 y1, o1.at_ _ (List.getElem?_eq_some_iff.mp d2).1 y4 y4⟩
        · obtain ⟨y1, y2, y3, y4⟩ := h.apart he hek hi
          have me := List.mem_of_getElem? he
          obtain ⟨sq, d1, d2, _⟩ := (h.ent e me).at_
          have := (List.getElem?_eq_some_iff.mp d2).1
          exact ⟨y1, fun z => by
            have z : e.b = b' := z
            omega⟩
      have hS2 : (t1.set M (.lst ((ts.map Ent.d).set k (.lst ((uni w ek.m ej.m).map sqD)))))[S]? = some (.lst ((allQ cs ws).map sqD)) := by
        rw [List.getElem?_set_ne (fun z => hSM z.symm), o1.at_ S lS hSP.1 hSP.1, hS]
      simp_all! [sb1, ix, ix2, un, sb2, T2.insE]
      refine wpI_intro (by rfl) ?_
      simp_all! [squares_M (q := q4) T2, ix3, fEq_sqs (s := stm q4 (t1.set M (.lst ((ts.map Ent.d).set k (.lst ((uni w ek.m ej.m).map sqD)))))) su su, decide_true]
      exact hQ q4 _ _ (a14.mono (by decide)) L2 hS2
end
end MP


set_option Elab.async false
set_option linter.all false
set_option maxRecDepth 100000
set_option maxHeartbeats 32000000
/-! PN38: the law -/
namespace MP
variable [Wd]
open PySem L2
section
variable {q : Sp0} {t : Sto} {Q : D → Sto → Prop} {E : XP} {T M S P b P2 b2 : Nat} {cs ws cs2 ws2 : List Str} {ts : List Ent} {m m2 : List Sq}
theorem LawT.gw {t' : Sto} (h : LawT t T M cs ws ts) (g : Gw t t') : LawT t' T M cs ws ts := ⟨g.keep h.tb, g.keep h.mb, fun e he => (h.ent e he).gw g, h.ap, h.l3⟩
theorem allQ_ok (g : Gr cs ws) : SqOk cs ws (allQ cs ws) := ⟨allQ_nd g.g.cn g.g.wn, allQ_pw g.g.cn g.g.wn g.s1 g.s2, fun p hp => allQ_mem.mp hp⟩
theorem givenQ_nil {P : Nat} : GivenQ q t P (.tup []) [] := ⟨⟨[], any_, rfl, .nil, fun _ h => (nomatch h), fun o => ⟨rfl, trivial⟩⟩⟩
theorem wp_tab {R : Sto → Prop} {z : D} {xs ys : List Str} {zs : List Sq} (hz : GivenQ q (t ++ [.ins "Table" []]) t.length z zs) (cl : xs.length ≤ 1000) (wl : ys.length ≤ 1000) (sl : zs.length ≤ 5000) (co : ∀ z ∈ xs, NameOk z) (wo : ∀ z ∈ ys, NameOk z) (sc : ∀ p ∈ zs, p.1 ∈ xs ∧ p.2 ∈ ys)
    (hR : ∀ o1 o2 : Ob, TabM (t ++ [o1, o2]) t.length (t.length + 1) (srt (ddS xs)) (srt (ddS ys)) (srtQ (ddQ [] zs)) → R (stm q (t ++ [o1, o2]))) : wpR (c_Table_init [.ref (t.length + 2), .lst (xs.map .str), .lst (ys.map .str), z] (stm q (t ++ [.ins "Table" []]))) (fun d s' => wpI (isNon d) (R s')) E :=
  wp_mkT given_lst given_lst hz rfl rfl cl wl sl co wo sc hR
theorem mem_dd {l : List Str} {z : Str} : z ∈ srt (ddS l) ↔ z ∈ l := by rw [(srt_perm _).mem_iff, ddS_mem]
theorem eq_apart (h : TabM t P b cs ws m) (h2 : TabM t P2 b2 cs2 ws2 m2) (hc : ∀ z ∈ cs, NameOk z) (hw : ∀ z ∈ ws, NameOk z) (hc2 : ∀ z ∈ cs2, NameOk z) (hw2 : ∀ z ∈ ws2, NameOk z) (hn : cs ≠ cs2) : c_Table_eq [.ref (P + 2), .ref (P2 + 2)] (stm q t) = some (.ok (.bl false) (stm q t)) := by
  rw [eq_M h h2 (fun z hz => (hc z hz).str) (fun z hz => (hw z hz).str) (fun z hz => (hc2 z hz).str) fun z hz => (hw2 z hz).str, decide_eq_false hn]
  rfl
def zws : List Str := ["zw", "zx", "zy", "zz"]
theorem spare_some {cs : List Str} (hl : cs.length ≤ 3) : ∃ z, (zws.filter fun w : Str => !decide (w ∈ cs)).take 1 = [z] ∧ z ∉ cs ∧ NameOk z := by
  have all : ∀ z ∈ zws, NameOk z := fun z hz => by
    unfold zws at hz
    simp only [List.mem_cons, List.not_mem_nil, or_false] at hz
    rcases hz with rfl | rfl | rfl | rfl <;> exact ⟨by decide, by decide, by decide⟩
  cases hf : zws.filter fun w : Str => !decide (w ∈ cs) with
  | cons z l =>
    have hz : z ∈ zws.filter fun w : Str => !decide (w ∈ cs) := by rw [hf]; exact List.mem_cons_self
    obtain ⟨h1, h2⟩ := List.mem_filter.mp hz
    exact ⟨z, rfl, by simpa using h2, all z h1⟩
  | nil =>
    exfalso
    have hall : ∀ w ∈ zws, w ∈ cs := fun w hw => by
      have := List.filter_eq_nil_iff.mp hf w hw
      simpa using this
    have := nd_len (a := zws) (b := cs) (by decide) hall
    have e : zws.length = 4 := rfl
    omega
/-- a comprehension that picks names -/
theorem pick_str {s : Sto} {c : MT} {ρ : Env} {i : Nat} {α : Str → Bool} {l : List Str} (hi : i < ρ.length) (hc : ∀ p ∈ l, wpR (c (ρ.set i (some (.str p))) s) (fun k s' => k = α p ∧ s' = s) (fun _ _ => False)) :
    lcL any_ (gmName i) c (mVar i) ρ (l.map .str) s = some (.ok ((l.filter α).map .str) s) := by
  rw [lcL_pureG (by trivial) (fun d => if α (strOf d) then some d else none) (fun d hd => ?_)]
  · congr 2
    generalize l = l
    induction l with
    | nil => rfl
    | cons p l ih =>
      rw [List.map_cons, List.filterMap_cons, List.filter_cons, show strOf (.str p) = p from rfl]
      cases α p with
      | true => simp only [if_true, List.map_cons, ih]
      | false => simp only [Bool.false_eq_true, if_false, ih]
  · obtain ⟨p, hp, rfl⟩ := List.mem_map.mp hd
    refine ⟨ρ.set i (some (.str p)), by unfold gmName; rfl, ?_⟩
    have e := eq_wpT (hc p hp)
    rw [show strOf (.str p) = p from rfl]
    cases hk : α p with
    | true =>
      rw [hk] at e
      refine ⟨e, ?_⟩
      unfold mVar
      rw [List.getElem?_set_self hi]
    | false =>
      rw [hk] at e
      exact e
end
theorem law_true (ns : List Int) (hns : ns.length ≤ 63) : ∃ st, law_ [.scr ns] [] = some (.ok (.bl true) st) := by
  have key : wpR (law_ [.scr ns] []) (fun d _ => d = .bl true) (fun _ _ => False) := by
    unfold law_
    refine wp_fn (by simp) ?_
    simp_all! [start_eq]
    rw [show rng? [.int 3] = some (upto 3, any_) from rng_nat (n := 3) (by decide)]
    walk_at "wu"
    refine wp_for (fun rest ρ s => ∃ (q : Sp0) (t : Sto) (i : Nat) (us : List (Option D)), us.length = 18 ∧ rest = (upto 3).drop i ∧ ρ = some (.scr ns) :: some (.ref 1) :: us ∧ s = stm q t ∧ q.Ok ∧ q.b + rest.length * 2000 ≤ 10000) ?_ ?_ ⟨⟨ns, 0, 0, 0⟩, [], 0, List.replicate 18 none, rfl, rfl, rfl, rfl, ⟨Int.le_refl 0, Int.le_refl 0, Int.le_refl 0, by show (0 : Int) < 2147483647; decide⟩, by rw [upto_len]; show (0 : Int) + 3 * 2000 ≤ 10000; decide⟩
    · rintro x rest ρ s ⟨q, t, ix, us, hus, hix, rfl, rfl, hq, hb⟩
      refine ⟨trivial, ?_⟩
      rw [List.length_cons] at hb
      rcases us with _ | ⟨o2, _ | ⟨o3, _ | ⟨o4, _ | ⟨o5, _ | ⟨o6, _ | ⟨o7, _ | ⟨o8, _ | ⟨o9, _ | ⟨o10, _ | ⟨o11, _ | ⟨o12, _ | ⟨o13, _ | ⟨o14, _ | ⟨o15, _ | ⟨o16, _ | ⟨o17, _ | ⟨o18, _ | ⟨o19, _ | ⟨o20, us⟩⟩⟩⟩⟩⟩⟩⟩⟩⟩⟩⟩⟩⟩⟩⟩⟩⟩⟩ <;> simp only [List.length_cons, List.length_nil] at hus
      all_goals try omega
      walk_at "wu"
      refine wp_grid hq (by omega) fun cs ws ob q1 G a1 => ?_
      have b1 := a1.hi
      have g : Gr cs ws := ⟨G, G.cs1, G.ws1⟩
      have l1 := G.cl
      have l2 := G.wl
      walk_at "wu"
      refine wp_squares (by omega) (by omega) ?_
      generalize t ++ [ob] = t1 at *
      have hS : (t1 ++ [Ob.lst ((allQ cs ws).map sqD)])[t1.length]? = some (.lst ((allQ cs ws).map sqD)) := last_get
      obtain ⟨S, hSd⟩ : ∃ S, S = t1.length := ⟨_, rfl⟩
      rw [← hSd] at hS ⊢
      generalize t1 ++ [Ob.lst ((allQ cs ws).map sqD)] = t2 at *
      have lS := (List.getElem?_eq_some_iff.mp hS).1
      have qlen : (allQ cs ws).length ≤ 12 := by
        have : cs.length * ws.length ≤ 3 * 4 := Nat.mul_le_mul l1 l2
        rw [allQ_len]; omega
      walk_at "wu"
      rw [show rng? [.int 3] = some (upto 3, any_) from rng_nat (n := 3) (by decide)]
      walk_at "wu"
      refine wpI_intro (by rw [upto_len]; decide) ?_
      refine wp_lcB (fun rest acc s => ∃ (q2 : Sp0) (ms : List (List Sq)), s = stm q2 t2 ∧ acc = ms.map (fun m => .lst (m.map sqD)) ∧ (∀ m ∈ ms, SqOk cs ws m) ∧ ms.length + rest.length = 3 ∧ q2.Ok ∧ q2.b + rest.length * 20 ≤ q1.b + 60) ?_ ?_ ⟨q1, [], rfl, rfl, fun _ h => (nomatch h), by rw [upto_len]; rfl, a1.ok, by rw [upto_len]; omega⟩
      · rintro d ds acc s ⟨q2, ms, rfl, rfl, hms, hml, hq2, hb2⟩
        refine ⟨trivial, ?_⟩
        rw [List.length_cons] at hml hb2
        walk_at "wu"
        refine wp_some hq2 (by omega) hS (by omega) fun m q3 hsub a3 => ?_
        have b3 := a3.hi
        refine ⟨q3, ms ++ [m], rfl, by rw [List.map_append]; rfl, fun m' hm' => ?_, by rw [List.length_append, List.length_singleton]; omega, a3.ok, by omega⟩
        rcases List.mem_append.mp hm' with h | h
        · exact hms m' h
        · rw [List.mem_singleton] at h
          subst h
          exact (allQ_ok g).sublist hsub
      rintro acc s ⟨q2, ms, rfl, rfl, hms, hml, hq2, hb2⟩
      refine ⟨trivial, ?_⟩
      rw [List.length_nil] at hml hb2
      simp_all! [stm_len, stm_app]
      obtain ⟨M, hM⟩ : ∃ M, M = t2.length := ⟨_, rfl⟩
      have hMb : (t2 ++ [Ob.lst (ms.map fun m => .lst (m.map sqD))])[M]? = some (.lst (ms.map fun m => .lst (m.map sqD))) := by rw [hM]; exact last_get
      have hS3 : (t2 ++ [Ob.lst (ms.map fun m => .lst (m.map sqD))])[S]? = some (.lst ((allQ cs ws).map sqD)) := Gw.app.keep hS
      have l3 : (t2 ++ [Ob.lst (ms.map fun m => .lst (m.map sqD))]).length = M + 1 := by rw [hM]; simp
      try rw [← hM]
      try rw [show (stm q2 t2).length = M + 2 from by rw [hM]; rfl]
      have e3 : stm q2 t2 ++ [Ob.lst (ms.map fun m => .lst (m.map sqD))] = stm q2 (t2 ++ [Ob.lst (ms.map fun m => .lst (m.map sqD))]) := rfl
      generalize t2 ++ [Ob.lst (ms.map fun m => .lst (m.map sqD))] = t3 at *
      try rw [e3]
      simp_all! [seqOf_stm hMb]
      refine wpI_intro (by rw [List.length_map]; omega) ?_
      refine wp_lcB (fun rest acc s => ∃ (q3 : Sp0) (t4 : Sto) (ts : List Ent) (rs : List (List Sq)), s = stm q3 t4 ∧ Gw t3 t4 ∧ ms = ts.map (·.m) ++ rs ∧ rest = rs.map (fun m => .lst (m.map sqD)) ∧ acc = ts.map Ent.t ∧ (∀ e ∈ ts, TabM t4 e.P e.b cs ws e.m ∧ e.P < t4.length ∧ e.b < t4.length) ∧ (∀ (i j : Nat) (e f : Ent), ts[i]? = some e → ts[j]? = some f → i ≠ j → e.P ≠ f.P ∧ e.b ≠ f.b) ∧ q3.Ok ∧ q3.b + rest.length * 200 ≤ q2.b + 600) ?_ ?_ ⟨q2, t3, [], ms, rfl, Gw.refl, rfl, rfl, rfl, fun _ h => (nomatch h), fun i j e f h => by simp at h, hq2, by rw [List.length_map]; omega⟩
      · rintro d ds acc s ⟨q3, t4, ts, rs, rfl, g4, hmr, hr, rfl, hen, hap, hq3, hb3⟩
        refine ⟨by show (stm q3 t4)[M + 2]? = _; rw [stm_get]; exact g4.keep hMb, ?_⟩
        rw [List.length_cons] at hb3
        cases rs with
        | nil => cases hr
        | cons m rs =>
          injection hr with hr1 hr2
          subst hr1 hr2
          have hm : SqOk cs ws m := hms m (by rw [hmr]; exact List.mem_append_right _ List.mem_cons_self)
          walk_at "wu"
          refine wp_made hq3 (by omega) g hm fun q4 t5 P b g5 a4 Tm hP hb => ?_
          have b4 := a4.hi
          obtain ⟨sq, d1, d2, _⟩ := Tm.at_
          have lP := (List.getElem?_eq_some_iff.mp d1).1
          have lb := (List.getElem?_eq_some_iff.mp d2).1
          have n5 := g5.len
          refine ⟨q4, t5, ts ++ [⟨P, b, m⟩], rs, rfl, g4.trans g5, by rw [List.map_append, List.append_assoc]; exact hmr, rfl, by rw [List.map_append]; rfl, fun e he => ?_, fun i j e f he hf hij => ?_, a4.ok, by omega⟩
          · rcases List.mem_append.mp he with h | h
            · obtain ⟨x1, x2, x3⟩ := hen e h
              exact ⟨x1.gw g5, by omega, by omega⟩
            · rw [List.mem_singleton] at h
              subst h
              exact ⟨Tm, lP, lb⟩
          · have get : ∀ {i : Nat} {e : Ent}, (ts ++ [⟨P, b, m⟩])[i]? = some e → (ts[i]? = some e) ∨ (i = ts.length ∧ e = ⟨P, b, m⟩) := fun {i e} h => by
              by_cases hi : i < ts.length
              · rw [List.getElem?_append_left hi] at h; exact .inl h
              · rw [List.getElem?_append_right (by omega)] at h
                have : i - ts.length = 0 := by
                  have := (List.getElem?_eq_some_iff.mp h).1
                  simp at this
                  omega
                rw [this] at h
                exact .inr ⟨by omega, (Option.some.inj h).symm⟩
            rcases get he with he' | ⟨i1, rfl⟩ <;> rcases get hf with hf' | ⟨i2, rfl⟩
            · exact hap i j e f he' hf' hij
            · obtain ⟨x1, x2, x3⟩ := hen e (List.mem_of_getElem? he')
              exact ⟨by show e.P ≠ P; omega, by show e.b ≠ b; omega⟩
            · obtain ⟨x1, x2, x3⟩ := hen f (List.mem_of_getElem? hf')
              exact ⟨by show P ≠ f.P; omega, by show b ≠ f.b; omega⟩
            · omega
      rintro acc s ⟨q3, t4, ts, rs, rfl, g4, hmr, hr, rfl, hen, hap, hq3, hb3⟩
      refine ⟨by show (stm q3 t4)[M + 2]? = _; rw [stm_get]; exact g4.keep hMb, ?_⟩
      obtain rfl : rs = [] := by cases rs with
        | nil => rfl
        | cons m rs => cases hr
      rw [List.append_nil] at hmr
      rw [List.length_nil] at hb3
      subst hmr
      rw [List.length_map] at hml
      simp_all! [stm_len, stm_app]
      obtain ⟨T, hT⟩ : ∃ T, T = t4.length := ⟨_, rfl⟩
      have n4 := g4.len
      have L : LawT (t4 ++ [Ob.lst (ts.map Ent.t)]) T M cs ws ts := ⟨by rw [hT]; exact last_get, by
        have := Gw.app (u := [Ob.lst (ts.map Ent.t)]).keep (g4.keep hMb)
        rw [this, List.map_map]
        rfl, fun e he => (hen e he).1.gw Gw.app, hap, by omega⟩
      have hS5 : (t4 ++ [Ob.lst (ts.map Ent.t)])[S]? = some (.lst ((allQ cs ws).map sqD)) := Gw.app.keep (g4.keep hS3)
      have hST : S ≠ T := by omega
      have hSM : S ≠ M := by omega
      rw [show (stm q3 t4).length = T + 2 from by rw [hT]; rfl, show stm q3 t4 ++ [Ob.lst (ts.map Ent.t)] = stm q3 (t4 ++ [Ob.lst (ts.map Ent.t)]) from rfl]
      generalize t4 ++ [Ob.lst (ts.map Ent.t)] = t5 at *
      rw [show rng? [.int 10] = some (upto 10, any_) from rng_nat (n := 10) (by decide)]
      walk_at "wu"
      refine wp_for (fun rest ρ s => ∃ (q6 : Sp0) (t6 : Sto) (ts6 : List Ent) (i6 : Nat) (p6 p15 p16 : Option D), rest = (upto 10).drop i6 ∧ ρ = [some (.scr ns), some (.ref 1), some x, some (.ref (S + 2)), some (.ref (M + 2)), some (.ref (T + 2)), p6, o7, o8, o9, o10, o11, some (.lst (cs.map .str)), some (.lst (ws.map .str)), o14, p15, p16, o17, o18, o19] ∧ s = stm q6 t6 ∧ LawT t6 T M cs ws ts6 ∧ t6[S]? = some (.lst ((allQ cs ws).map sqD)) ∧ q6.Ok ∧ q6.b + rest.length * 20 ≤ q3.b + 200) ?_ ?_ ⟨q3, t5, ts, 0, _, _, _, rfl, rfl, rfl, L, hS5, hq3, by rw [upto_len]; omega⟩
      · rintro y rest2 ρ s ⟨q6, t6, ts6, i6, p6, p15, p16, hi6, rfl, rfl, L6, hS6, hq6, hb6⟩
        refine ⟨trivial, ?_⟩
        rw [List.length_cons] at hb6
        simp_all! [zip_boxes (q := q6) L6.tb L6.mb]
        refine wp_for (fun rest ρ s => ∃ (l : List Ent) (t7 : Sto) (r15 r16 : Option D), rest = l.map (fun e => .tup [e.t, e.d]) ∧ (∀ e ∈ l, e ∈ ts6) ∧ ρ = [some (.scr ns), some (.ref 1), some x, some (.ref (S + 2)), some (.ref (M + 2)), some (.ref (T + 2)), some y, o7, o8, o9, o10, o11, some (.lst (cs.map .str)), some (.lst (ws.map .str)), o14, r15, r16, o17, o18, o19] ∧ s = stm q6 t7 ∧ Gw t6 t7) ?_ ?_ ⟨ts6, t6, _, _, rfl, fun _ h => h, rfl, rfl, Gw.refl⟩
        · rintro z rest3 ρ s ⟨l, t7, r15, r16, hr, hl, rfl, rfl, g7⟩
          refine ⟨⟨by show (stm q6 t7)[T + 2]? = _; rw [stm_get]; exact g7.keep L6.tb, by show (stm q6 t7)[M + 2]? = _; rw [stm_get]; exact g7.keep L6.mb⟩, ?_⟩
          cases l with
          | nil => cases hr
          | cons e l =>
            injection hr with hr1 hr2
            subst hr1 hr2
            have Te := ((L6.gw g7).ent e (hl e List.mem_cons_self))
            dsimp only [Ent.t, Ent.d]
            walk_at "wu"
            refine wp_shows Te g fun t8 g8 => ?_
            simp_all! [Bool.not_true]
            exact ⟨l, t8, _, _, rfl, fun p hp => hl p (List.mem_cons_of_mem _ hp), rfl, rfl, g7.trans g8⟩
        · rintro ρ s ⟨l, t7, r15, r16, hr, hl, rfl, rfl, g7⟩
          refine ⟨⟨by show (stm q6 t7)[T + 2]? = _; rw [stm_get]; exact g7.keep L6.tb, by show (stm q6 t7)[M + 2]? = _; rw [stm_get]; exact g7.keep L6.mb⟩, ?_⟩
          have L7 := L6.gw g7
          walk_at "wu"
          refine wp_compared L7 g ?_
          simp_all! [Bool.not_true]
          refine wp_deed hq6 (by omega) L7 g (g7.keep hS6) hST hSM fun q8 t8 ts8 a8 L8 hS8 => ?_
          have b8 := a8.hi
          simp_all! [Bool.not_true]
          exact ⟨q8, t8, ts8, i6 + 1, _, _, _, by rw [← List.tail_drop, ← hi6]; rfl, rfl, rfl, L8, hS8, a8.ok, by omega⟩
      rintro ρ s ⟨q6, t6, ts6, i6, p6, p15, p16, hi6, rfl, rfl, L6, hS6, hq6, hb6⟩
      refine ⟨trivial, ?_⟩
      rw [List.length_nil] at hb6
      have sG : ∀ z ∈ cs, NameOk z := g.g.co
      have sW : ∀ z ∈ ws, NameOk z := g.g.wo
      obtain ⟨e0, he0, me0⟩ := L6.get (k := 0) (by decide)
      have T0 := L6.ent e0 me0
      have le0 := T0.len12 g
      obtain ⟨z, hz1, hz2, hz3⟩ := spare_some (cs := cs) l1
      have tk : ∀ (l : List Str) (s : Sto), fSl s (.lst (l.map .str)) none (some 1) = some (.lst ((l.take 1).map .str)) := fun l s => by
        rw [fSl_lst, show (1 : Int) = ((1 : Nat) : Int) from rfl, cutD_take, List.map_take]
      have ad : ∀ (l k : List Str) (s : Sto), l.length ≤ 100 → k.length ≤ 100 → fAdd s (.lst (l.map .str)) (.lst (k.map .str)) = some (.lst ((l ++ k).map .str)) := fun l k s h1 h2 => by
        rw [fAdd_lst, if_pos (by rw [List.length_map, List.length_map]; omega), List.map_append]
      walk_at "wu"
      rw [show [D.str (Str.ofString "zw"), D.str (Str.ofString "zx"), D.str (Str.ofString "zy"), D.str (Str.ofString "zz")] = zws.map .str from rfl, pick_str (α := fun w => !decide (w ∈ cs)) (by simp) fun p hp => by
        simp_all! [notin_strs]
        exact ⟨by trivial, by trivial⟩]
      have ix0 := L6.ixM (q := q6) he0
      simp_all! [tk, hz1, ad cs [z] _ (by omega) (by simp), show fIx (stm q6 t6) (.ref (M + 2)) (.int 0) = some (.lst (e0.m.map sqD)) from ix0, stm_len, stm_app]
      have coz : ∀ y ∈ cs ++ [z], NameOk y := fun y hy => (List.mem_append.mp hy).elim (sG y) fun h => by rw [List.mem_singleton] at h; rw [h]; exact hz3
      have dn : ∀ {l : List Str}, (∀ y ∈ l, NameOk y) → ∀ y ∈ srt (ddS l), NameOk y := fun h y hy => h y (mem_dd.mp hy)
      have dsl : ∀ (l : List Str) (k : Nat) (s : Sto), fSl s (.lst (l.map .str)) (some (k : Int)) none = some (.lst ((l.drop k).map .str)) := fun l k s => by
        rw [fSl_lst, cutD_drop, List.map_drop]
      refine wp_tab (xs := cs ++ [z]) (ys := ws) (zs := e0.m) givenQ_lst (by simp; omega) (by omega) (by omega) coz sW (fun p hp => ⟨List.mem_append_left _ (T0.ok.sub p hp).1, (T0.ok.sub p hp).2⟩) fun w1 w2 TO => ?_
      have g7 : Gw t6 (t6 ++ [w1, w2]) := Gw.app
      have L7 := L6.gw g7
      have hS7 := g7.keep hS6
      generalize t6 ++ [w1, w2] = t7 at *
      have T07 := T0.gw g7
      have hn : srt (ddS (cs ++ [z])) ≠ cs := fun e => hz2 (by rw [← e]; exact mem_dd.mpr (by simp))
      have eA := eq_apart (q := q6) TO T07 (dn coz) (dn sW) sG sW hn
      have eB := eq_apart (q := q6) T07 TO sG sW (dn coz) (dn sW) fun e => hn e.symm
      have ixT7 : fIx (stm q6 t7) (.ref (T + 2)) (.int 0) = some (.ref (e0.P + 2)) := L7.ixT (k := 0) he0
      have ok9 : okE_Table (.o "Table") = true := rfl
      simp_all! [TO.insE, T07.insE, Option.isSome_some, kd_tab (q := q6) TO, kd_tab (q := q6) T07, ok9, ixT7, eA, eB, Bool.not_false, Bool.not_true, tk]
      refine wpI_intro (by rw [List.length_map, List.length_take]; omega) ?_
      rw [pick_str (α := fun w => !decide (w ∈ cs)) (by simp) fun p hp => by
        simp_all! [notin_strs]
        exact ⟨by trivial, by trivial⟩]
      obtain ⟨mv, hmv⟩ : ∃ mv, mv = (ws.take 1).filter fun w => !decide (w ∈ cs) := ⟨_, rfl⟩
      rw [← hmv]
      have mvl : mv.length ≤ 1 := by
        rw [hmv]
        exact Nat.le_trans (List.length_filter_le _ _) (by rw [List.length_take]; omega)
      have mvm : ∀ y ∈ mv, y ∈ ws ∧ y ∉ cs := fun y hy => by
        rw [hmv] at hy
        obtain ⟨h1, h2⟩ := List.mem_filter.mp hy
        exact ⟨List.mem_of_mem_take h1, by simpa using h2⟩
      have com : ∀ y ∈ cs ++ mv, NameOk y := fun y hy => (List.mem_append.mp hy).elim (sG y) fun h => sW y (mvm y h).1
      have cow : ∀ y ∈ ws.drop mv.length, NameOk y := fun y hy => sW y (List.mem_of_mem_drop hy)
      simp_all! [ad cs mv _ (by omega) (by omega), List.length_map, dsl, stm_len, stm_app, List.cons_append, List.nil_append]
      refine wp_tab (xs := cs ++ mv) (ys := ws.drop mv.length) (zs := []) givenQ_nil (by rw [List.length_append]; omega) (by rw [List.length_drop]; omega) (by simp) com cow (fun p hp => nomatch hp) fun w3 w4 TA => ?_
      have g8 : Gw t7 (t7 ++ [w3, w4]) := Gw.app
      have L8 := L7.gw g8
      have hS8 := g8.keep hS7
      generalize t7 ++ [w3, w4] = t8 at *
      simp_all! [stm_len, stm_app, List.cons_append, List.nil_append]
      refine wp_tab (xs := cs) (ys := ws) (zs := []) givenQ_nil (by omega) (by omega) (by simp) sG sW (fun p hp => nomatch hp) fun w5 w6 TB => ?_
      have g9 : Gw t8 (t8 ++ [w5, w6]) := Gw.app
      have L9 := L8.gw g9
      have TA := TA.gw g9
      have hS9 := g9.keep hS8
      generalize t8 ++ [w5, w6] = t9 at *
      have T09 := (T07.gw g8).gw g9
      have ixM9 : fIx (stm q6 t9) (.ref (M + 2)) (.int 0) = some (.lst (e0.m.map sqD)) := L9.ixM (k := 0) he0
      have ixT9 : fIx (stm q6 t9) (.ref (T + 2)) (.int 0) = some (.ref (e0.P + 2)) := L9.ixT (k := 0) he0
      have lc : ∀ (ρ : Env), ρ[5]? = some (some (.ref (T + 2))) → ρ.length = 20 → lcL any_ (gmName 19) mYes (mEqO "Table" okE_Table c_Table_eq (mOp fIx (mVar 5) (mC (.int 0))) (mVar 19)) ρ [.lst (e0.m.map sqD), .tup (e0.m.map sqD), .ref (S + 2), .non, .bl true] (stm q6 t9) = some (.ok [.bl false, .bl false, .bl false, .bl false, .bl false] (stm q6 t9)) := fun ρ hρ hl => by
        rw [lcL_pureG (by trivial) (fun _ => some (.bl false)) (fun d hd => ?_)]
        · rfl
        · refine ⟨ρ.set 19 (some d), by unfold gmName; rfl, rfl, eq_wp ?_⟩
          have v5 : (ρ.set 19 (some d))[5]? = some (some (.ref (T + 2))) := by rw [List.getElem?_set_ne (by decide)]; exact hρ
          have v19 : (ρ.set 19 (some d))[19]? = some (some d) := List.getElem?_set_self (by omega)
          have kS : kdD (stm q6 t9) (.ref (S + 2)) = some (.t "list") := kd_stm hS9
          simp only [List.mem_cons, List.not_mem_nil, or_false] at hd
          have done : ∀ k : Kd, kdD (stm q6 t9) d = some k → okE_Table k = true → isC_Table k = some false → wpR (mEqO "Table" okE_Table c_Table_eq (mOp fIx (mVar 5) (mC (.int 0))) (mVar 19) (ρ.set 19 (some d)) (stm q6 t9)) (fun d s' => d = .bl false ∧ s' = stm q6 t9) (fun _ _ => False) := fun k h1 h2 h3 => by
            have en := eq_no (P := e0.P) (s := stm q6 t9) (x := d) (by rw [h1]; exact h3)
            simp_all! [v5, v19, ixT9, T09.insE, Option.isSome_some, h1, h2, en]
            exact ⟨by trivial, by trivial⟩
          rcases hd with rfl | rfl | rfl | rfl | rfl
          · exact done (.t "list") rfl rfl rfl
          · exact done (.t "tuple") rfl rfl rfl
          · exact done (.t "list") kS rfl rfl
          · exact done (.t "NoneType") rfl rfl rfl
          · exact done (.t "bool") rfl rfl rfl
      have ga : gAny (stm q6 t9) [.lst [.bl false, .bl false, .bl false, .bl false, .bl false]] = some (.bl false) := rfl
      cases mv with
      | nil =>
        simp_all! [List.map_nil, show ∀ s, fNil true s (.lst []) (.lst []) = some (.bl false) from fun _ => rfl, stm_len, ixM9]
        rw [lc _ rfl rfl]
        simp_all! [ga]
        exact ⟨q6, t9, ix + 1, _, by rfl, by rw [← List.tail_drop, ← hix]; rfl, rfl, rfl, hq6, by omega⟩
      | cons w mv =>
        obtain ⟨wm1, wm2⟩ := mvm w List.mem_cons_self
        have hn2 : srt (ddS (cs ++ w :: mv)) ≠ srt (ddS cs) := fun e => wm2 (mem_dd.mp (by rw [← e]; exact mem_dd.mpr (by simp)))
        have eA2 := eq_apart (q := q6) TA TB (dn com) (dn cow) (dn sG) (dn sW) hn2
        have eB2 := eq_apart (q := q6) TB TA (dn sG) (dn sW) (dn com) (dn cow) fun e => hn2 e.symm
        simp_all! [List.map_cons, show ∀ s (a : D) l, fNil true s (.lst (a :: l)) (.lst []) = some (.bl true) from fun _ _ _ => rfl, stm_len, ix_0, ix_1, TA.insE, TB.insE, Option.isSome_some, kd_tab (q := q6) TA, kd_tab (q := q6) TB, ok9, eA2, eB2, Bool.not_false, Bool.not_true, ixM9]
        rw [lc _ rfl rfl]
        simp_all! [ga]
        exact ⟨q6, t9, ix + 1, _, by rfl, by rw [← List.tail_drop, ← hix]; rfl, rfl, rfl, hq6, by omega⟩
    · rintro ρ s ⟨q, t, ix, us, hus, hix, rfl, rfl, hq, hb⟩
      refine ⟨trivial, ?_⟩
      have na : NameOk "a" := ⟨by decide, by decide, by decide⟩
      have nb : NameOk "b" := ⟨by decide, by decide, by decide⟩
      have nc : NameOk "c" := ⟨by decide, by decide, by decide⟩
      have n1 : ∀ {l : List Str} {z : Str}, z = "a" ∨ z = "b" ∨ z = "c" → NameOk z := fun {l z} h => by
        rcases h with rfl | rfl | rfl
        · exact na
        · exact nb
        · exact nc
      have all : ∀ {l : List Str}, (∀ z ∈ l, z = "a" ∨ z = "b" ∨ z = "c") → ∀ z ∈ l, NameOk z := fun h z hz => n1 (l := []) (h z hz)
      have dn : ∀ {l : List Str}, (∀ y ∈ l, NameOk y) → ∀ y ∈ srt (ddS l), NameOk y := fun h y hy => h y (mem_dd.mp hy)
      have oa : ∀ y ∈ (["a"] : List Str), NameOk y := all fun z hz => by simp at hz; exact .inl hz
      have ob : ∀ y ∈ (["b"] : List Str), NameOk y := all fun z hz => by simp at hz; exact .inr (.inl hz)
      have oc : ∀ y ∈ (["c"] : List Str), NameOk y := all fun z hz => by simp at hz; exact .inr (.inr hz)
      have oab : ∀ y ∈ (["a", "b"] : List Str), NameOk y := all fun z hz => by simp at hz; exact hz.imp id .inl
      have obc : ∀ y ∈ (["b", "c"] : List Str), NameOk y := all fun z hz => by simp at hz; exact .inr hz
      have on : ∀ y ∈ ([] : List Str), NameOk y := fun _ h => nomatch h
      have hn : srt (ddS ["a"]) ≠ srt (ddS ["a", "b"]) := fun e => by
        have : (Str.ofString "b") ∈ srt (ddS ["a"]) := by rw [e]; exact mem_dd.mpr (by decide)
        exact absurd (mem_dd.mp this) (by decide)
      have ok9 : okE_Table (.o "Table") = true := rfl
      simp_all! [stm_len, stm_app, List.cons_append, List.nil_append]
      refine wp_tab (xs := ["a"]) (ys := ["b"]) (zs := []) givenQ_nil (by decide) (by decide) (by decide) oa ob (fun p hp => nomatch hp) fun w1 w2 TA => ?_
      have gA : Gw t (t ++ [w1, w2]) := Gw.app
      generalize t ++ [w1, w2] = t1 at *
      simp_all! [stm_len, stm_app, List.cons_append, List.nil_append]
      refine wp_tab (xs := ["a", "b"]) (ys := []) (zs := []) givenQ_nil (by decide) (by decide) (by decide) oab on (fun p hp => nomatch hp) fun w3 w4 TB => ?_
      have TA := TA.gw (Gw.app (u := [w3, w4]))
      generalize t1 ++ [w3, w4] = t2 at *
      have eA := eq_apart (q := q) TA TB (dn oa) (dn ob) (dn oab) (dn on) hn
      simp_all! [stm_len, TA.insE, kd_tab (q := q) TB, ok9, Option.isSome_some, eA, stm_app, List.cons_append, List.nil_append]
      refine wp_tab (xs := ["a"]) (ys := ["b", "c"]) (zs := []) givenQ_nil (by decide) (by decide) (by decide) oa obc (fun p hp => nomatch hp) fun w5 w6 TC => ?_
      generalize t2 ++ [w5, w6] = t3 at *
      simp_all! [stm_len, stm_app, List.cons_append, List.nil_append]
      refine wp_tab (xs := ["a", "b"]) (ys := ["c"]) (zs := []) givenQ_nil (by decide) (by decide) (by decide) oab oc (fun p hp => nomatch hp) fun w7 w8 TD => ?_
      have TC := TC.gw (Gw.app (u := [w7, w8]))
      generalize t3 ++ [w7, w8] = t4 at *
      have eB := eq_apart (q := q) TC TD (dn oa) (dn obc) (dn oab) (dn oc) hn
      simp_all! [stm_len, TC.insE, kd_tab (q := q) TD, ok9, Option.isSome_some, eB, stm_app, List.cons_append, List.nil_append]
      refine wp_tab (xs := ["b"]) (ys := ["a"]) (zs := []) givenQ_nil (by decide) (by decide) (by decide) ob oa (fun p hp => nomatch hp) fun w9 w10 TE => ?_
      generalize t4 ++ [w9, w10] = t5 at *
      have em : srtQ (ddQ [] []) = [] := List.length_eq_zero_iff.mp (srtQ_perm []).length_eq
      rw [em] at TE
      simp_all! [stm_len, TE.insE]
      refine wpI_intro (by rfl) ?_
      simp_all! [squares_M (q := q) TE, List.map_nil, show ∀ s, fNil false s (.lst []) (.lst []) = some (.bl true) from fun _ => rfl]
  obtain ⟨d, s, e, rfl⟩ := wpR_get key
  exact ⟨s, e⟩
end MP


theorem PySem.Challenge.cw_heldback_k38_tables_as_sets_holds : PySem.Challenge.rw_heldback_k38_tables_as_sets.Holds := by
  exact MP.base0 (fun _ => MP.law_true)
