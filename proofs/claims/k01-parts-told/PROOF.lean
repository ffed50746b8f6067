import PyProof.Rows.All
import Wide.All
import OpenK.AllK
import Wide.FinOn
import HandS.ForMost
import HandS.ForExc
import HandS.Walk
import HandS.Defaults
import HandS.HeadHook1
import HandS.IsInst
import HandS.TupAny
import HandS.TupLe
import HandS.Star
import HandS.Deep
import HandS.Style
import KE.GoesEnum
import KE.GoesZip
import KE.GoesMore
import HandS.More
import HandS.TupMul
import HandS.Strs
import PyProof.Rows.SortShellAny
import HandS.Dict
import PyProof.ReprRoads
import HandS.OwnEq
import PyProof.InstEq
import HandS.HeadHook4
import HandS.HeadEnd
import HandS.EndBits
import KE.KStateDown
import Lean
import HandS.Head0
import HandS.Head1
import HandS.Head2
import PySem.Challenge.RW_heldback_k01_parts_told
set_option Elab.async false
set_option linter.all false
set_option maxRecDepth 100000
set_option maxHeartbeats 4000000
/-! MP1: values, store, representation, readings -/
namespace MP
open PySem L2

inductive D where
  | non | bl (b : Bool) | int (i : Int) | str (s : Str) | lst (l : List D) | tup (l : List D) | dct (ks : List Key) (vs : List D) | ref (n : Nat) | scr (ns : List Int)

inductive Ob where
  | gone | lst (l : List D) | dct (l : List (Key × D)) | ins (C : Str) (fs : List (Str × D))

abbrev Sto := List Ob
abbrev Env := List (Option D)
structure Xc where
  cls : Str
  fs : List (Str × D)
inductive R (α : Type) where
  | ok (a : α) (s : Sto)
  | ex (x : Xc) (s : Sto)
abbrev RO (α : Type) := Option (R α)
abbrev ME := Env → Sto → RO D
abbrev MA := Env → Sto → RO (List D)
abbrev MT := Env → Sto → RO Bool
abbrev FM := List D → Sto → RO D
def bnd {α β : Type} (x : RO α) (f : α → Sto → RO β) : RO β := match x with
  | some (.ok a s) => f a s
  | some (.ex e s) => some (.ex e s)
  | none => none
@[simp] theorem bnd_ok {α β : Type} (a : α) (s : Sto) (f : α → Sto → RO β) : bnd (some (.ok a s)) f = f a s := rfl
@[simp] theorem bnd_ex {α β : Type} (x : Xc) (s : Sto) (f : α → Sto → RO β) : bnd (some (.ex x s)) f = some (.ex x s) := rfl
@[simp] theorem bnd_none {α β : Type} (f : α → Sto → RO β) : bnd none f = none := rfl

/-! ### representation -/
mutual
inductive Rp (K : PySem.W.Frag) (Z : Hp) (ι : List Addr) : V → D → Prop where
  | non : Rp K Z ι .non .non
  | bl (b : Bool) : Rp K Z ι (.bl b) (.bl b)
  | int (i : Int) : Rp K Z ι (.int i) (.int i)
  | str (s : Str) : Rp K Z ι (.str s) (.str s)
  | lst {a : Addr} {xs : List V} {ds : List D} (h : Z a = some (.lst xs)) (r : RpL K Z ι xs ds) : Rp K Z ι (.ref a) (.lst ds)
  | tup {a : Addr} {xs : List V} {ds : List D} (h : SqT K Z a xs) (r : RpL K Z ι xs ds) : Rp K Z ι (.ref a) (.tup ds)
  | dct {a : Addr} {ks : List Key} {xs : List V} {ds : List D} (hl : ks.length = xs.length) (h : Z a = some (.dK (ks.zip xs))) (r : RpL K Z ι xs ds) : Rp K Z ι (.ref a) (.dct ks ds)
  | ref {n : Nat} {a : Addr} (h : ι[n]? = some a) : Rp K Z ι (.ref a) (.ref n)
  | scr {a : Addr} {ns : List Int} (h : SqL K Z a (ns.map V.int)) : Rp K Z ι (.ref a) (.scr ns)
inductive RpL (K : PySem.W.Frag) (Z : Hp) (ι : List Addr) : List V → List D → Prop where
  | nil : RpL K Z ι [] []
  | cons {v : V} {vs : List V} {d : D} {ds : List D} (h : Rp K Z ι v d) (r : RpL K Z ι vs ds) : RpL K Z ι (v :: vs) (d :: ds)
end

structure Ext (Z : Hp) (ι : List Addr) (Z' : Hp) (ι' : List Addr) : Prop where
  z : Same Z Z'
  i : ∃ t, ι' = ι ++ t
theorem Ext.refl (Z : Hp) (ι : List Addr) : Ext Z ι Z ι := ⟨Same.refl Z, [], (List.append_nil ι).symm⟩
theorem Ext.trans {Z Z1 Z2 : Hp} {ι ι1 ι2 : List Addr} (a : Ext Z ι Z1 ι1) (b : Ext Z1 ι1 Z2 ι2) : Ext Z ι Z2 ι2 := by
  obtain ⟨a1, t, rfl⟩ := a
  obtain ⟨b1, u, rfl⟩ := b
  exact ⟨a1.trans b1, t ++ u, by rw [List.append_assoc]⟩
theorem Ext.get {Z Z' : Hp} {ι ι' : List Addr} (g : Ext Z ι Z' ι') {n : Nat} {a : Addr} (h : ι[n]? = some a) : ι'[n]? = some a := by
  obtain ⟨_, t, rfl⟩ := g
  have hl : n < ι.length := (List.getElem?_eq_some_iff.mp h).1
  rw [List.getElem?_append_left hl]
  exact h
theorem same_sql {K : PySem.W.Frag} {H H' : Hp} {a : Addr} {xs : List V} (e : Same H H') (h : SqL K H a xs) : SqL K H' a xs := by
  rcases h with (h | ⟨o, h⟩) | h
  · exact .inl (.inl (e _ _ h))
  · exact .inl (.inr ⟨o, e _ _ h⟩)
  · exact .inr h
theorem same_sqt {K : PySem.W.Frag} {H H' : Hp} {a : Addr} {xs : List V} (e : Same H H') (h : SqT K H a xs) : SqT K H' a xs := by
  rcases h with (h | ⟨o, h⟩) | h
  · exact .inl (.inl (e _ _ h))
  · exact .inl (.inr ⟨o, e _ _ h⟩)
  · exact .inr h
section
variable {K : PySem.W.Frag} {Z Z' : Hp} {ι ι' : List Addr}
mutual
theorem Rp.mono (g : Ext Z ι Z' ι') : ∀ {v : V} {d : D}, Rp K Z ι v d → Rp K Z' ι' v d
  | _, _, .non => .non
  | _, _, .bl b => .bl b
  | _, _, .int i => .int i
  | _, _, .str s => .str s
  | _, _, .lst h r => .lst (g.z _ _ h) (RpL.mono g r)
  | _, _, .tup h r => .tup (same_sqt g.z h) (RpL.mono g r)
  | _, _, .dct hl h r => .dct hl (g.z _ _ h) (RpL.mono g r)
  | _, _, .ref h => .ref (g.get h)
  | _, _, .scr h => .scr (same_sql g.z h)
theorem RpL.mono (g : Ext Z ι Z' ι') : ∀ {vs : List V} {ds : List D}, RpL K Z ι vs ds → RpL K Z' ι' vs ds
  | _, _, .nil => .nil
  | _, _, .cons h r => .cons (Rp.mono g h) (RpL.mono g r)
end
theorem RpL.length : ∀ {vs : List V} {ds : List D}, RpL K Z ι vs ds → vs.length = ds.length
  | _, _, .nil => rfl
  | _, _, .cons _ r => congrArg Nat.succ r.length
theorem RpL.get : ∀ {vs : List V} {ds : List D} {i : Nat} {d : D}, RpL K Z ι vs ds → ds[i]? = some d → ∃ v, vs[i]? = some v ∧ Rp K Z ι v d
  | _, _, _, _, .nil, e => by simp at e
  | _, _, 0, _, .cons h _, e => by simp at e; subst e; exact ⟨_, rfl, h⟩
  | _, _, i + 1, _, .cons _ r, e => by
    obtain ⟨v, h1, h2⟩ := RpL.get (i := i) r (by simpa using e)
    exact ⟨v, by simpa using h1, h2⟩
theorem RpL.getV : ∀ {vs : List V} {ds : List D} {i : Nat} {v : V}, RpL K Z ι vs ds → vs[i]? = some v → ∃ d, ds[i]? = some d ∧ Rp K Z ι v d
  | _, _, _, _, .nil, e => by simp at e
  | _, _, 0, _, .cons h _, e => by simp at e; subst e; exact ⟨_, rfl, h⟩
  | _, _, i + 1, _, .cons _ r, e => by
    obtain ⟨v, h1, h2⟩ := RpL.getV (i := i) r (by simpa using e)
    exact ⟨v, by simpa using h1, h2⟩
theorem RpL.append : ∀ {vs ws : List V} {ds es : List D}, RpL K Z ι vs ds → RpL K Z ι ws es → RpL K Z ι (vs ++ ws) (ds ++ es)
  | _, _, _, _, .nil, s => s
  | _, _, _, _, .cons h r, s => .cons h (r.append s)
theorem RpL.one {v : V} {d : D} (h : Rp K Z ι v d) : RpL K Z ι [v] [d] := .cons h .nil
theorem RpL.set {v : V} {d : D} (h : Rp K Z ι v d) : ∀ {vs : List V} {ds : List D} (i : Nat), RpL K Z ι vs ds → RpL K Z ι (vs.set i v) (ds.set i d)
  | _, _, _, .nil => .nil
  | _, _, 0, .cons _ r => .cons h r
  | _, _, i + 1, .cons q r => .cons q (RpL.set h i r)
theorem RpL.take : ∀ {vs : List V} {ds : List D} (n : Nat), RpL K Z ι vs ds → RpL K Z ι (vs.take n) (ds.take n)
  | _, _, 0, _ => .nil
  | _, _, _ + 1, .nil => .nil
  | _, _, n + 1, .cons h r => .cons h (r.take n)
theorem RpL.drop : ∀ {vs : List V} {ds : List D} (n : Nat), RpL K Z ι vs ds → RpL K Z ι (vs.drop n) (ds.drop n)
  | _, _, 0, r => r
  | _, _, _ + 1, .nil => .nil
  | _, _, n + 1, .cons _ r => RpL.drop n r
end

/-! ### the store -/
theorem nodup_inj {α : Type} : ∀ {l : List α} (_ : l.Nodup) {i j : Nat} (hi : i < l.length) (hj : j < l.length), l[i] = l[j] → i = j
  | [], _, _, _, hi, _, _ => absurd hi (Nat.not_lt_zero _)
  | a :: l, h, 0, 0, _, _, _ => rfl
  | a :: l, h, 0, j + 1, _, hj, e => by
    have h1 := (List.nodup_cons.mp h).1
    exact absurd (by simpa using (show a = l[j]'(Nat.lt_of_succ_lt_succ hj) from e) ▸ List.getElem_mem _) h1
  | a :: l, h, i + 1, 0, hi, _, e => by
    have h1 := (List.nodup_cons.mp h).1
    exact absurd (by simpa using (show a = l[i]'(Nat.lt_of_succ_lt_succ hi) from (show l[i]'(Nat.lt_of_succ_lt_succ hi) = a from e).symm) ▸ List.getElem_mem _) h1
  | a :: l, h, i + 1, j + 1, hi, hj, e => congrArg Nat.succ (nodup_inj (List.nodup_cons.mp h).2 (Nat.lt_of_succ_lt_succ hi) (Nat.lt_of_succ_lt_succ hj) (by simpa using e))
def RpK (K : PySem.W.Frag) (Z : Hp) (ι : List Addr) (ks : List (Key × V)) (kvs : List (Key × D)) : Prop := Paired (fun (p : Key × V) (q : Key × D) => p.1 = q.1 ∧ Rp K Z ι p.2 q.2) ks kvs
def RpF (K : PySem.W.Frag) (Z : Hp) (ι : List Addr) (ks : List (Str × V)) (kvs : List (Str × D)) : Prop := Paired (fun (p : Str × V) (q : Str × D) => p.1 = q.1 ∧ Rp K Z ι p.2 q.2) ks kvs
def ObR (K : PySem.W.Frag) (Z : Hp) (ι : List Addr) (H : Hp) (a : Addr) : Ob → Prop
  | .gone => ∃ o, H a = some o
  | .lst ds => Z a = none ∧ ∃ xs, H a = some (.lst xs) ∧ RpL K Z ι xs ds
  | .dct kvs => Z a = none ∧ ∃ ks, H a = some (.dK ks) ∧ RpK K Z ι ks kvs
  | .ins C fs => Z a = none ∧ ∃ dx gs, H a = some (.ins (He.ga K C) dx gs) ∧ RpF K Z ι gs fs
structure Rel (K : PySem.W.Frag) (st : Sto) (H Z : Hp) (ι : List Addr) : Prop where
  zin : Same Z H
  len : ι.length = st.length
  nd : ι.Nodup
  ob : ∀ (n : Nat) (o : Ob) (a : Addr), st[n]? = some o → ι[n]? = some a → ObR K Z ι H a o
theorem ObR.there {K : PySem.W.Frag} {Z : Hp} {ι : List Addr} {H : Hp} {a : Addr} {o : Ob} (h : ObR K Z ι H a o) : ∃ u, H a = some u := by
  cases o with
  | gone => exact h
  | lst ds => obtain ⟨_, xs, e, _⟩ := h; exact ⟨_, e⟩
  | dct ds => obtain ⟨_, xs, e, _⟩ := h; exact ⟨_, e⟩
  | ins C fs => obtain ⟨_, dx, gs, e, _⟩ := h; exact ⟨_, e⟩
section
variable {K : PySem.W.Frag} {Z Z' H H' : Hp} {ι ι' : List Addr} {st : Sto}
theorem RpK.mono (g : Ext Z ι Z' ι') {ks : List (Key × V)} {kvs : List (Key × D)} (h : RpK K Z ι ks kvs) : RpK K Z' ι' ks kvs := Paired.mapP h fun _ _ q => ⟨q.1, q.2.mono g⟩
theorem RpF.mono (g : Ext Z ι Z' ι') {ks : List (Str × V)} {kvs : List (Str × D)} (h : RpF K Z ι ks kvs) : RpF K Z' ι' ks kvs := Paired.mapP h fun _ _ q => ⟨q.1, q.2.mono g⟩
theorem Rel.addr (r : Rel K st H Z ι) {n : Nat} {o : Ob} (h : st[n]? = some o) : ∃ a, ι[n]? = some a ∧ ObR K Z ι H a o := by
  have hl : n < ι.length := by rw [r.len]; exact (List.getElem?_eq_some_iff.mp h).1
  exact ⟨ι[n], List.getElem?_eq_getElem hl, r.ob n o _ h (List.getElem?_eq_getElem hl)⟩
theorem Rel.at_ (r : Rel K st H Z ι) {n : Nat} {a : Addr} (h : ι[n]? = some a) : ∃ o, st[n]? = some o ∧ ObR K Z ι H a o := by
  have hl : n < st.length := by rw [← r.len]; exact (List.getElem?_eq_some_iff.mp h).1
  exact ⟨st[n], List.getElem?_eq_getElem hl, r.ob n _ a (List.getElem?_eq_getElem hl) h⟩
theorem Rel.fresh (r : Rel K st H Z ι) {p : Addr} (hp : H p = none) : Z p = none ∧ p ∉ ι := by
  refine ⟨r.zin.free hp, fun hm => ?_⟩
  obtain ⟨n, hn⟩ := List.getElem?_of_mem hm
  obtain ⟨o, _, h⟩ := r.at_ hn
  obtain ⟨u, e⟩ := h.there
  rw [hp] at e
  cases e
/-- the objects at other addresses stand as they stood -/
theorem ObR.keep {a : Addr} {o : Ob} (h : ObR K Z ι H a o) (g : Ext Z ι Z' ι') (hz : Z a = none → Z' a = none) (e : ∀ u, H a = some u → H' a = some u) : ObR K Z' ι' H' a o := by
  cases o with
  | gone => obtain ⟨u, q⟩ := h; exact ⟨u, e u q⟩
  | lst ds => obtain ⟨z, xs, q, r⟩ := h; exact ⟨hz z, xs, e _ q, r.mono g⟩
  | dct ds => obtain ⟨z, xs, q, r⟩ := h; exact ⟨hz z, xs, e _ q, r.mono g⟩
  | ins C fs => obtain ⟨z, dx, gs, q, r⟩ := h; exact ⟨hz z, dx, gs, e _ q, r.mono g⟩
/-- the state goes on: what is no box stands; new boxes and new immutable things are new (or let go boxes) -/
structure Grow (Z : Hp) (ι : List Addr) (H : Hp) (Z' : Hp) (ι' : List Addr) (H' : Hp) : Prop extends Ext Z ι Z' ι' where
  keep : ∀ b o, b ∉ ι → H b = some o → H' b = some o
  new : ∀ b, b ∈ ι' → b ∈ ι ∨ H b = none
  zn : ∀ b o, Z' b = some o → Z b = some o ∨ H b = none ∨ b ∈ ι
theorem Grow.refl (Z : Hp) (ι : List Addr) (H : Hp) : Grow Z ι H Z ι H := ⟨Ext.refl Z ι, fun _ _ _ h => h, fun _ h => .inl h, fun _ _ h => .inl h⟩
theorem Grow.trans {Z Z1 Z2 H H1 H2 : Hp} {ι ι1 ι2 : List Addr} (a : Grow Z ι H Z1 ι1 H1) (b : Grow Z1 ι1 H1 Z2 ι2 H2) : Grow Z ι H Z2 ι2 H2 := by
  have back : ∀ c, H1 c = none → H c = none ∨ c ∈ ι := fun c h => by
    by_cases hc : c ∈ ι
    · exact .inr hc
    · cases e : H c with
      | none => exact .inl rfl
      | some o => rw [a.keep c o hc e] at h; cases h
  refine ⟨a.toExt.trans b.toExt, fun c o hc h => ?_, fun c hc => ?_, fun c o h => ?_⟩
  · refine b.keep c o (fun z => ?_) (a.keep c o hc h)
    rcases a.new c z with q | q
    · exact hc q
    · rw [q] at h; cases h
  · rcases b.new c hc with q | q
    · exact a.new c q
    · rcases back c q with z | z
      · exact .inr z
      · exact .inl z
  · rcases b.zn c o h with q | q | q
    · exact a.zn c o q
    · rcases back c q with z | z
      · exact .inr (.inl z)
      · exact .inr (.inr z)
    · rcases a.new c q with z | z
      · exact .inr (.inr z)
      · exact .inr (.inl z)
theorem same_upd {H : Hp} {p : Addr} {o : HO} (hp : H p = none) : Same H (upd H p o) := fun b u e => by
  rw [upd_ne (ne_of_none e hp)]
  exact e
/-- a new immutable thing -/
theorem Rel.zone (r : Rel K st H Z ι) {p : Addr} {o : HO} (hp : H p = none) : Rel K st (upd H p o) (upd Z p o) ι ∧ Grow Z ι H (upd Z p o) ι (upd H p o) := by
  obtain ⟨hz, hi⟩ := r.fresh hp
  have g : Ext Z ι (upd Z p o) ι := ⟨same_upd hz, [], (List.append_nil ι).symm⟩
  refine ⟨⟨fun b u e => ?_, r.len, r.nd, fun n ob a h1 h2 => ?_⟩, g, fun b u _ e => by rw [upd_ne (ne_of_none e hp)]; exact e, fun b hb => .inl hb, fun b u e => ?_⟩
  · by_cases hb : b = p
    · subst hb; rw [upd_same] at e ⊢; exact e
    · rw [upd_ne hb] at e ⊢; exact r.zin _ _ e
  · have hne : a ≠ p := fun z => hi (z ▸ List.mem_of_getElem? h2)
    refine (r.ob n ob a h1 h2).keep g (fun z => by rw [upd_ne hne]; exact z) fun u q => by rw [upd_ne hne]; exact q
  · by_cases hb : b = p
    · rw [hb]; exact .inr (.inl hp)
    · rw [upd_ne hb] at e; exact .inl e
/-- a new object that nothing of ours names -/
theorem Rel.junk (r : Rel K st H Z ι) {p : Addr} {o : HO} (hp : H p = none) : Rel K st (upd H p o) Z ι ∧ Grow Z ι H Z ι (upd H p o) := by
  obtain ⟨hz, hi⟩ := r.fresh hp
  refine ⟨⟨fun b u e => ?_, r.len, r.nd, fun n ob a h1 h2 => ?_⟩, Ext.refl _ _, fun b u _ e => by rw [upd_ne (ne_of_none e hp)]; exact e, fun b hb => .inl hb, fun b u e => .inl e⟩
  · rw [upd_ne (ne_of_none e hz)]; exact r.zin _ _ e
  · have hne : a ≠ p := fun z => hi (z ▸ List.mem_of_getElem? h2)
    exact (r.ob n ob a h1 h2).keep (Ext.refl _ _) (fun z => z) fun u q => by rw [upd_ne hne]; exact q
/-- a new box -/
theorem Rel.box (r : Rel K st H Z ι) {p : Addr} {o : HO} {ob : Ob} (hp : H p = none) (ho : ∀ H' ι', H' p = some o → Z p = none → Ext Z ι Z ι' → ObR K Z ι' H' p ob) : Rel K (st ++ [ob]) (upd H p o) Z (ι ++ [p]) ∧ Grow Z ι H Z (ι ++ [p]) (upd H p o) := by
  obtain ⟨hz, hi⟩ := r.fresh hp
  have g : Ext Z ι Z (ι ++ [p]) := ⟨Same.refl Z, [p], rfl⟩
  refine ⟨⟨fun b u e => ?_, by simp [r.len], ?_, fun n u a h1 h2 => ?_⟩, g, fun b u _ e => by rw [upd_ne (ne_of_none e hp)]; exact e, fun b hb => ?_, fun b u e => .inl e⟩
  · rw [upd_ne (ne_of_none e hz)]; exact r.zin _ _ e
  · rw [List.nodup_append]
    refine ⟨r.nd, by simp, fun a ha b hb => ?_⟩
    have e : b = p := by simpa using hb
    subst e
    exact fun z => hi (z ▸ ha)
  · by_cases hn : n < st.length
    · rw [List.getElem?_append_left hn] at h1
      rw [List.getElem?_append_left (by rw [r.len]; exact hn)] at h2
      have hne : a ≠ p := fun z => hi (z ▸ List.mem_of_getElem? h2)
      exact (r.ob n u a h1 h2).keep g (fun z => z) fun w q => by rw [upd_ne hne]; exact q
    · have hn' : n = st.length := by
        have := (List.getElem?_eq_some_iff.mp h1).1
        simp at this
        omega
      subst hn'
      rw [List.getElem?_append_right (Nat.le_refl _)] at h1
      rw [List.getElem?_append_right (by rw [r.len]; exact Nat.le_refl _)] at h2
      simp [r.len] at h1 h2
      subst h1 h2
      exact ho _ _ upd_same hz g
  · rcases List.mem_append.mp hb with h | h
    · exact .inl h
    · have e : b = p := by simpa using h
      rw [e]; exact .inr hp
/-- a box is changed -/
theorem Rel.change (r : Rel K st H Z ι) {n : Nat} {a : Addr} {o : HO} {ob : Ob} (hn : ι[n]? = some a) (hz : Z a = none) (ho : ∀ H', H' a = some o → ObR K Z ι H' a ob) : Rel K (st.set n ob) (upd H a o) Z ι ∧ Grow Z ι H Z ι (upd H a o) := by
  refine ⟨⟨fun b u e => ?_, by simp [r.len], r.nd, fun m u b h1 h2 => ?_⟩, Ext.refl _ _, fun b u hb e => by rw [upd_ne (show b ≠ a from fun z => hb (by rw [z]; exact List.mem_of_getElem? hn))]; exact e, fun b hb => .inl hb, fun b u e => .inl e⟩
  · rw [upd_ne (ne_of_none e hz)]; exact r.zin _ _ e
  · by_cases hm : m = n
    · subst hm
      rw [hn] at h2
      cases h2
      rw [List.getElem?_set] at h1
      have hl : m < st.length := by rw [← r.len]; exact (List.getElem?_eq_some_iff.mp hn).1
      rw [if_pos rfl, if_pos hl] at h1
      cases h1
      exact ho _ upd_same
    · rw [List.getElem?_set, if_neg (Ne.symm hm)] at h1
      have hne : b ≠ a := fun z => by
        subst z
        obtain ⟨l1, e1⟩ := List.getElem?_eq_some_iff.mp h2
        obtain ⟨l2, e2⟩ := List.getElem?_eq_some_iff.mp hn
        exact hm (nodup_inj r.nd l1 l2 (e1.trans e2.symm))
      exact (r.ob m u b h1 h2).keep (Ext.refl _ _) (fun z => z) fun w q => by rw [upd_ne hne]; exact q
/-- a box list is let go: from now on it is immutable -/
theorem Rel.freeze (r : Rel K st H Z ι) {n : Nat} {ds : List D} (hs : st[n]? = some (.lst ds)) : ∃ a Z', ι[n]? = some a ∧ Grow Z ι H Z' ι H ∧ Rel K (st.set n .gone) H Z' ι ∧ Rp K Z' ι (.ref a) (.lst ds) := by
  obtain ⟨a, ha, hz, xs, hH, hr⟩ := r.addr hs
  have g : Ext Z ι (upd Z a (.lst xs)) ι := ⟨same_upd hz, [], (List.append_nil ι).symm⟩
  refine ⟨a, upd Z a (.lst xs), ha, ⟨g, fun _ _ _ h => h, fun _ h => .inl h, fun b u e => ?_⟩, ⟨fun b u e => ?_, by simp [r.len], r.nd, fun m u b h1 h2 => ?_⟩, .lst upd_same (hr.mono g)⟩
  · by_cases hb : b = a
    · rw [hb]; exact .inr (.inr (List.mem_of_getElem? ha))
    · rw [upd_ne hb] at e; exact .inl e
  · by_cases hb : b = a
    · subst hb; rw [upd_same] at e; cases e; exact hH
    · rw [upd_ne hb] at e; exact r.zin _ _ e
  · by_cases hm : m = n
    · subst hm
      rw [ha] at h2
      cases h2
      rw [List.getElem?_set] at h1
      have hl : m < st.length := (List.getElem?_eq_some_iff.mp hs).1
      rw [if_pos rfl, if_pos hl] at h1
      cases h1
      exact ⟨_, hH⟩
    · rw [List.getElem?_set, if_neg (Ne.symm hm)] at h1
      have hne : b ≠ a := fun z => by
        subst z
        obtain ⟨l1, e1⟩ := List.getElem?_eq_some_iff.mp h2
        obtain ⟨l2, e2⟩ := List.getElem?_eq_some_iff.mp ha
        exact hm (nodup_inj r.nd l1 l2 (e1.trans e2.symm))
      exact (r.ob m u b h1 h2).keep g (fun z => by rw [upd_ne hne]; exact z) fun w q => q
end

/-! ### environments, ends -/
structure EnvR (K : PySem.W.Frag) (Z : Hp) (ι : List Addr) (ρ : Env) (σ : St) : Prop where
  len : ρ.length = σ.length
  at_ : ∀ (i : Nat) (d : D), ρ[i]? = some (some d) → ∃ v, σ[i]? = some (some v) ∧ Rp K Z ι v d
theorem EnvR.mono {K : PySem.W.Frag} {Z Z' : Hp} {ι ι' : List Addr} {ρ : Env} {σ : St} (e : EnvR K Z ι ρ σ) (g : Ext Z ι Z' ι') : EnvR K Z' ι' ρ σ :=
  ⟨e.len, fun i d h => let ⟨v, h1, h2⟩ := e.at_ i d h; ⟨v, h1, h2.mono g⟩⟩
theorem EnvR.set {K : PySem.W.Frag} {Z : Hp} {ι : List Addr} {ρ : Env} {σ : St} {v : V} {d : D} (e : EnvR K Z ι ρ σ) (i : Nat) (r : Rp K Z ι v d) : EnvR K Z ι (ρ.set i (some d)) (σ.set i (some v)) := by
  refine ⟨by simp [e.len], fun j b h => ?_⟩
  rw [List.getElem?_set] at h ⊢
  by_cases hj : i = j
  · subst hj
    rw [if_pos rfl] at h ⊢
    by_cases hl : i < ρ.length
    · rw [if_pos hl] at h
      cases h
      rw [if_pos (by rw [← e.len]; exact hl)]
      exact ⟨v, rfl, r⟩
    · rw [if_neg hl] at h
      cases h
  · rw [if_neg hj] at h ⊢
    exact e.at_ j b h
def XR (K : PySem.W.Frag) (Z : Hp) (ι : List Addr) (H : Hp) (x : Xc) (c : Value) (d : Option Addr) : Prop :=
  c = .ref (He.ga K x.cls) ∧ ((x.fs = [] ∧ d = none) ∨ ∃ dd gs, d = some dd ∧ H dd = some (.xd gs) ∧ RpF K Z ι gs x.fs)
/-- what is wanted behind -/
def Post {α β : Type} (K : PySem.W.Frag) (W : WX) (σ : St) (Z : Hp) (ι : List Addr) (H : Hp) (rep : Hp → List Addr → β → α → Prop) (Q : β → Hp → Prop) : RO α → Prop
  | some (.ok a st) => ∀ b H' Z' ι', Grow Z ι H Z' ι' H' → Rel K st H' Z' ι' → rep Z' ι' b a → Q b H'
  | some (.ex x st) => ∀ c d H' Z' ι', Grow Z ι H Z' ι' H' → Rel K st H' Z' ι' → XR K Z' ι' H' x c d → W c d σ H'
  | none => False
def rdG {α β : Type} (K : PySem.W.Frag) (W : WX) (rep : Hp → List Addr → β → α → Prop) (m : Env → Sto → RO α) : St → Hp → (β → Hp → Prop) → Prop := fun σ H Q =>
  ∃ ρ st Z ι, EnvR K Z ι ρ σ ∧ Rel K st H Z ι ∧ Post K W σ Z ι H rep Q (m ρ st)
abbrev rd (K : PySem.W.Frag) (W : WX) (m : ME) : TE := rdG K W (Rp K) m
abbrev rdA (K : PySem.W.Frag) (W : WX) (m : MA) : TA := rdG K W (RpL K) m
abbrev eqB : Hp → List Addr → Bool → Bool → Prop := fun _ _ b a => b = a
abbrev rdT (K : PySem.W.Frag) (W : WX) (m : MT) : TT := rdG K W eqB m
section
variable {K : PySem.W.Frag} {W : WX} {σ : St} {H H1 : Hp} {Z Z1 : Hp} {ι ι1 : List Addr} {α β γ δ : Type} {rep : Hp → List Addr → β → α → Prop} {rep2 : Hp → List Addr → δ → γ → Prop}
theorem Post.mono {Q Q' : β → Hp → Prop} {x : RO α} (h : Post K W σ Z ι H rep Q x) (hQ : ∀ b H, Q b H → Q' b H) : Post K W σ Z ι H rep Q' x := by
  cases x with
  | none => exact h
  | some r => cases r with
    | ok a st => exact fun b H' Z' ι' g r q => hQ _ _ (h b H' Z' ι' g r q)
    | ex x st => exact h
theorem Post.grow {Q : β → Hp → Prop} {x : RO α} (h : Post K W σ Z ι H rep Q x) (g : Grow Z ι H Z1 ι1 H1) : Post K W σ Z1 ι1 H1 rep Q x := by
  cases x with
  | none => exact h
  | some r => cases r with
    | ok a st => exact fun b H' Z' ι' g' r q => h b H' Z' ι' (g.trans g') r q
    | ex x st => exact fun c d H' Z' ι' g' r q => h c d H' Z' ι' (g.trans g') r q
theorem rdG.mono {m : Env → Sto → RO α} {Q Q' : β → Hp → Prop} (h : rdG K W rep m σ H Q) (hQ : ∀ b H, Q b H → Q' b H) : rdG K W rep m σ H Q' := by
  obtain ⟨ρ, st, Z, ι, e, r, p⟩ := h
  exact ⟨ρ, st, Z, ι, e, r, p.mono hQ⟩
/-- first m, then the rest, knowing what m gave -/
theorem kont {m : Env → Sto → RO α} {f : α → Sto → RO γ} {Q : δ → Hp → Prop} {ρ : Env} {st : Sto} (e : EnvR K Z ι ρ σ) (r : Rel K st H Z ι) (p : Post K W σ Z ι H rep2 Q (bnd (m ρ st) f)) :
    rdG K W rep m σ H (fun b H1 => ∃ st1 Z1 ι1 a, Grow Z ι H Z1 ι1 H1 ∧ EnvR K Z1 ι1 ρ σ ∧ Rel K st1 H1 Z1 ι1 ∧ rep Z1 ι1 b a ∧ Post K W σ Z1 ι1 H1 rep2 Q (f a st1)) := by
  refine ⟨ρ, st, Z, ι, e, r, ?_⟩
  cases hx : m ρ st with
  | none => rw [hx] at p; exact p.elim
  | some q => cases q with
    | ok a st1 =>
      rw [hx] at p
      exact fun b H' Z' ι' g r' q' => ⟨st1, Z', ι', a, g, e.mono g.toExt, r', q', (show Post K W σ Z ι H rep2 Q (f a st1) from p).grow g⟩
    | ex x st1 => rw [hx] at p; exact p
end
/-! ### judgements -/
theorem pe_imp {X : Cx} {e : Expr} {t t' : TE} (h : PE X e t) (f : ∀ σ H Q, t' σ H Q → t σ H Q) : PE X e t' := ⟨fun pins s σ H Q I q => h.run pins s σ H Q I (f σ H Q q)⟩
theorem pt_imp {X : Cx} {e : Expr} {t t' : TT} (h : PT X e t) (f : ∀ σ H Q, t' σ H Q → t σ H Q) : PT X e t' := ⟨fun pins s σ H Q I q => h.run pins s σ H Q I (f σ H Q q)⟩
theorem pw_imp {X : Cx} {e : Expr} {t t' : TT} (h : PW X e t) (f : ∀ σ H Q, t' σ H Q → t σ H Q) : PW X e t' := ⟨fun w pins s σ H Q I q => h.run w pins s σ H Q I (f σ H Q q)⟩
theorem pa_imp {X : Cx} {es : List Expr} {t t' : TA} (h : PA X es t) (f : ∀ σ H Q, t' σ H Q → t σ H Q) : PA X es t' := ⟨fun pos pins s σ H Q I q => h.run pos pins s σ H Q I (f σ H Q q)⟩
theorem ps_imp {X : Cx} {s : Stmt} {t t' : TS} (h : PS X s t) (f : ∀ D σ H, t' D σ H → t D σ H) : PS X s t' := ⟨fun pins s σ H D I q => h.run pins s σ H D I (f D σ H q)⟩
theorem pss_imp {X : Cx} {s : List Stmt} {t t' : TS} (h : PSs X s t) (f : ∀ D σ H, t' D σ H → t D σ H) : PSs X s t' := ⟨fun pins s σ H D I q => h.run pins s σ H D I (f D σ H q)⟩
abbrev Sd (X : Cx) (W : WX) (e : Expr) (m : ME) : Prop := PE X e (rd X.K W m)
abbrev SdT (X : Cx) (W : WX) (e : Expr) (m : MT) : Prop := PT X e (rdT X.K W m)
abbrev SdW (X : Cx) (W : WX) (e : Expr) (m : MT) : Prop := PW X e (rdT X.K W m)
abbrev SdA (X : Cx) (W : WX) (es : List Expr) (m : MA) : Prop := PA X es (rdA X.K W m)
end MP

set_option Elab.async false
set_option linter.all false
set_option maxRecDepth 100000
set_option maxHeartbeats 4000000
/-! MP2: expressions -/
namespace MP
open PySem L2

def ofO {α : Type} (o : Option α) (s : Sto) : RO α := match o with
  | some d => some (.ok d s)
  | none => none
@[simp] theorem ofO_some {α : Type} (d : α) (s : Sto) : ofO (some d) s = some (.ok d s) := rfl
@[simp] theorem ofO_none {α : Type} (s : Sto) : ofO (none : Option α) s = none := rfl
/-! ### combinators -/
def mVar (i : Nat) : ME := fun ρ s => match ρ[i]? with
  | some (some d) => some (.ok d s)
  | _ => none
def mC (d : D) : ME := fun _ s => some (.ok d s)
def mOp (f : Sto → D → D → Option D) (a b : ME) : ME := fun ρ s => bnd (a ρ s) fun x s => bnd (b ρ s) fun y s => ofO (f s x y) s
def mUn (f : Sto → D → Option D) (a : ME) : ME := fun ρ s => bnd (a ρ s) fun x s => ofO (f s x) s
def mNil : MA := fun _ s => some (.ok [] s)
def mCons (a : ME) (r : MA) : MA := fun ρ s => bnd (a ρ s) fun x s => bnd (r ρ s) fun xs s => some (.ok (x :: xs) s)
/-- the items of a list or tuple -/
def items? (s : Sto) : D → Option (List D)
  | .lst l => some l
  | .tup l => some l
  | .ref n => match s[n]? with
    | some (.lst l) => some l
    | _ => none
  | _ => none
def mStar (a : ME) (r : MA) : MA := fun ρ s => bnd (a ρ s) fun x s => bnd (ofO (items? s x) s) fun ys s => bnd (r ρ s) fun xs s => some (.ok (ys ++ xs) s)
def mTup (a : MA) : ME := fun ρ s => bnd (a ρ s) fun xs s => if xs.length ≤ 16777216 then some (.ok (.tup xs) s) else none
def mLst (a : MA) : ME := fun ρ s => bnd (a ρ s) fun xs s => if xs.length ≤ 16777216 then some (.ok (.lst xs) s) else none
/-- a new list that may change -/
def mLstB (a : MA) : ME := fun ρ s => bnd (a ρ s) fun xs s => if xs.length ≤ 16777216 then some (.ok (.ref s.length) (s ++ [.lst xs])) else none
def mIfE (c : MT) (a b : ME) : ME := fun ρ s => bnd (c ρ s) fun k s => if k = true then a ρ s else b ρ s
def mTst (a : ME) : MT := fun ρ s => bnd (a ρ s) fun x s => match x with
  | .bl b => some (.ok b s)
  | _ => none
def mNot (a : MT) : MT := fun ρ s => bnd (a ρ s) fun b s => some (.ok (!b) s)
def mAnd (a b : MT) : MT := fun ρ s => bnd (a ρ s) fun k s => if k = true then b ρ s else some (.ok false s)
def mOr (a b : MT) : MT := fun ρ s => bnd (a ρ s) fun k s => if k = true then some (.ok true s) else b ρ s
def mAndV (a b : ME) : ME := fun ρ s => bnd (a ρ s) fun x s => match x with
  | .bl true => b ρ s
  | .bl false => some (.ok (.bl false) s)
  | _ => none
def mOrV (a b : ME) : ME := fun ρ s => bnd (a ρ s) fun x s => match x with
  | .bl true => some (.ok (.bl true) s)
  | .bl false => b ρ s
  | _ => none
def mNotV (a : ME) : ME := fun ρ s => bnd (a ρ s) fun x s => match x with
  | .bl b => some (.ok (.bl (!b)) s)
  | _ => none
/-- a op b op' c -/
def mChain (f f' : Sto → D → D → Option Bool) (a b c : ME) : ME := fun ρ s => bnd (a ρ s) fun x s => bnd (b ρ s) fun y s => match f s x y with
  | some true => bnd (c ρ s) fun z s => match f' s y z with
    | some k => some (.ok (.bl k) s)
    | none => none
  | some false => some (.ok (.bl false) s)
  | none => none

/-! ### soundness of operations on values -/
def OpS (K : PySem.W.Frag) (f : Sto → D → D → Option D) (r : R2) : Prop := ∀ (st : Sto) (x y d : D) (v u : V) (H Z : Hp) (ι : List Addr) (Q : VK), f st x y = some d → Rel K st H Z ι → Rp K Z ι v x → Rp K Z ι u y →
  (∀ z H' Z', Grow Z ι H Z' ι H' → Rel K st H' Z' ι → Rp K Z' ι z d → Q z H') → r v u H Q
def UnS (K : PySem.W.Frag) (f : Sto → D → Option D) (r : V → Hp → VK → Prop) : Prop := ∀ (st : Sto) (x d : D) (v : V) (H Z : Hp) (ι : List Addr) (Q : VK), f st x = some d → Rel K st H Z ι → Rp K Z ι v x →
  (∀ z H' Z', Grow Z ι H Z' ι H' → Rel K st H' Z' ι → Rp K Z' ι z d → Q z H') → r v H Q
section
variable {X : Cx} {W : WX} {a b c e : Expr} {es : List Expr} {pos : Pos} {ma mb mc : ME} {ms : MA}
theorem sd_var (i : Nat) {x : Str} (hN : X.N[i]? = some x := by rfl) (hv : Vis X.env.scope x := by first | exact Or.inl rfl | exact Or.inr (Or.inl rfl) | exact Or.inr (Or.inr rfl)) (hd : (x == ("__debug__" : Str)) = false := by decide) (hcd : (x == ("__classdict__" : Str)) = false := by decide) : Sd X W (.Name x pos) (mVar i) := by
  refine pe_imp (pe_var hN hv hd hcd) fun σ H Q ⟨ρ, st, Z, ι, e, r, p⟩ => ?_
  unfold mVar at p
  split at p
  · rename_i d hd'
    obtain ⟨v, h1, h2⟩ := e.at_ i d hd'
    exact ⟨v, h1, p v H Z ι (Grow.refl _ _ _) r h2⟩
  · exact p.elim
theorem rd_c {K : PySem.W.Frag} {v : V} {d : D} {σ : L2.St} {H : Hp} {Q : VK} (h : rd K W (mC d) σ H Q) (hr : ∀ Z ι, Rp K Z ι v d) : Q v H := by
  obtain ⟨ρ, st, Z, ι, e, r, p⟩ := h
  exact p v H Z ι (Grow.refl _ _ _) r (hr _ _)
theorem sd_int {i : Int} {j} : Sd X W (.Constant (.int i) j pos) (mC (.int i)) := pe_imp pe_int fun σ H Q h => rd_c h fun _ _ => .int i
theorem sd_str {z : Str} {j} : Sd X W (.Constant (.str z) j pos) (mC (.str z)) := pe_imp pe_str fun σ H Q h => rd_c h fun _ _ => .str z
theorem sd_bl {k : Bool} {j} : Sd X W (.Constant (.bool k) j pos) (mC (.bl k)) := pe_imp pe_bl fun σ H Q h => rd_c h fun _ _ => .bl k
theorem sd_non {j} : Sd X W (.Constant .none j pos) (mC .non) := pe_imp pe_non fun σ H Q h => rd_c h fun _ _ => .non
/-- a module's constant -/
theorem sd_glob {x : Str} {v : V} {u : Value} {d : D} (hm : X.mg x = some u) (r : RelV v u) (hr : ∀ Z ι, Rp X.K Z ι v d) (hg : Gl X x := by rfl) (hd : (x == ("__debug__" : Str)) = false := by decide) : Sd X W (.Name x pos) (mC d) := pe_imp (pe_glob hg hm r hd) fun σ H Q h => rd_c h hr
theorem rd_op {K : PySem.W.Frag} {f : Sto → D → D → Option D} {r : R2} {σ : L2.St} {H : Hp} {Q : VK} (hs : OpS K f r) (h : rd K W (mOp f ma mb) σ H Q) : tOp r (rd K W ma) (rd K W mb) σ H Q := by
  obtain ⟨ρ, st, Z, ι, e, r0, p⟩ := h
  refine rdG.mono (kont e r0 p) fun v H1 ⟨st1, Z1, ι1, x, g1, e1, r1, rx, p1⟩ => ?_
  refine rdG.mono (kont e1 r1 p1) fun u H2 ⟨st2, Z2, ι2, y, g2, e2, r2, ry, p2⟩ => ?_
  cases hf : f st2 x y with
  | none => rw [hf] at p2; exact p2.elim
  | some d =>
    rw [hf] at p2
    exact hs st2 x y d v u H2 Z2 ι2 Q hf r2 (rx.mono g2.toExt) ry fun z H' Z' g r q => p2 z H' Z' ι2 g r q
theorem sd_bin {op : Operator} {f : Sto → D → D → Option D} {r : R2} (ho : OpR X (binaryOp op) r) (hs : OpS X.K f r) (ha : Sd X W a ma) (hb : Sd X W b mb) : Sd X W (.BinOp a op b pos) (mOp f ma mb) :=
  pe_imp (pe_op ho ha hb) fun _ _ _ h => rd_op hs h
theorem sd_cmp {op : CmpOp} {f : Sto → D → D → Option D} {r : R2} (ho : OpR X (compareOp op) r) (hs : OpS X.K f r) (ha : Sd X W a ma) (hb : Sd X W b mb) (hm : behindInMarks op b = false := by first | exact nomark _ | rfl) : Sd X W (.Compare a [op] [b] pos) (mOp f ma mb) :=
  pe_imp (pe_cmpR ho ha hb hm) fun _ _ _ h => rd_op hs h
theorem sd_un {op : UnaryOp} {f : Sto → D → Option D} {r : V → Hp → VK → Prop} (ho : UnR X (unaryOp op) r) (hs : UnS X.K f r) (ha : Sd X W a ma) : Sd X W (.UnaryOp op a pos) (mUn f ma) := by
  refine pe_imp (pe_un ho ha) fun σ H Q ⟨ρ, st, Z, ι, e, r0, p⟩ => ?_
  refine rdG.mono (kont e r0 p) fun v H1 ⟨st1, Z1, ι1, x, g1, e1, r1, rx, p1⟩ => ?_
  cases hf : f st1 x with
  | none => rw [hf] at p1; exact p1.elim
  | some d =>
    rw [hf] at p1
    exact hs st1 x d v H1 Z1 ι1 Q hf r1 rx fun z H' Z' g r q => p1 z H' Z' ι1 g r q
theorem sd_ix {f : Sto → D → D → Option D} {r : R2} (ho : IxR X r) (hs : OpS X.K f r) (ha : Sd X W a ma) (hb : Sd X W b mb) (hp : PlainIx b := by exact fun _ _ => rfl) : Sd X W (.Subscript a b pos) (mOp f ma mb) :=
  pe_imp (pe_ix ho ha hb hp) fun _ _ _ h => rd_op hs h
/-! tests -/
theorem rdT_tst {K : PySem.W.Frag} {σ : L2.St} {H : Hp} {Q : Bool → Hp → Prop} (h : rdT K W (mTst ma) σ H Q) : rd K W ma σ H fun x H1 => ∃ k, x = .bl k ∧ Q k H1 := by
  obtain ⟨ρ, st, Z, ι, e, r0, p⟩ := h
  refine rdG.mono (kont e r0 p) fun v H1 ⟨st1, Z1, ι1, x, g1, e1, r1, rx, p1⟩ => ?_
  cases x with
  | bl k =>
    cases rx
    exact ⟨k, rfl, p1 k H1 Z1 ι1 (Grow.refl _ _ _) r1 rfl⟩
  | _ => exact p1.elim
theorem st_val (h : Sd X W a ma) (he : ∀ whole, isTrue a X.env whole = (do let v ← whole; standAt a.pos; holding [v] (truthy v)) := by intro _; rfl) : SdT X W a (mTst ma) :=
  pt_imp (pt_val h he) fun _ _ _ h => rdT_tst h
theorem st_cmp {op : CmpOp} {f : Sto → D → D → Option D} {r : R2} (ho : OpR X (compareOp op) r) (hs : OpS X.K f r) (ha : Sd X W a ma) (hb : Sd X W b mb) (hm : behindInMarks op b = false := by first | exact nomark _ | rfl) : SdT X W (.Compare a [op] [b] pos) (mTst (mOp f ma mb)) :=
  pt_imp (pt_cmpR ho ha hb hm) fun _ _ _ h => by
    obtain ⟨ρ, st, Z, ι, e, r0, p⟩ := rdT_tst h
    exact rd_op hs ⟨ρ, st, Z, ι, e, r0, p⟩
variable {ta tb : MT} {rest : List Expr}
theorem rdT_and {K : PySem.W.Frag} {σ : L2.St} {H : Hp} {Q : Bool → Hp → Prop} (h : rdT K W (mAnd ta tb) σ H Q) : tAnd (rdT K W ta) (rdT K W tb) σ H Q := by
  obtain ⟨ρ, st, Z, ι, e, r0, p⟩ := h
  refine rdG.mono (kont e r0 p) fun k H1 ⟨st1, Z1, ι1, x, g1, e1, r1, rx, p1⟩ => ?_
  cases (show k = x from rx)
  cases k with
  | true => exact iteT ⟨ρ, st1, Z1, ι1, e1, r1, by simpa using p1⟩
  | false => exact iteF ((show Post K W σ Z1 ι1 H1 eqB Q (some (.ok false st1)) by simpa using p1) false H1 Z1 ι1 (Grow.refl _ _ _) r1 rfl)
theorem rdT_or {K : PySem.W.Frag} {σ : L2.St} {H : Hp} {Q : Bool → Hp → Prop} (h : rdT K W (mOr ta tb) σ H Q) : tOr (rdT K W ta) (rdT K W tb) σ H Q := by
  obtain ⟨ρ, st, Z, ι, e, r0, p⟩ := h
  refine rdG.mono (kont e r0 p) fun k H1 ⟨st1, Z1, ι1, x, g1, e1, r1, rx, p1⟩ => ?_
  cases (show k = x from rx)
  cases k with
  | false => exact iteF ⟨ρ, st1, Z1, ι1, e1, r1, by simpa using p1⟩
  | true => exact iteT ((show Post K W σ Z1 ι1 H1 eqB Q (some (.ok true st1)) by simpa using p1) true H1 Z1 ι1 (Grow.refl _ _ _) r1 rfl)
theorem sw_and1 (h : SdT X W a ta) : SdW X W (.BoolOp .And [a] pos) ta := pw_and1 h
theorem sw_or1 (h : SdT X W a ta) : SdW X W (.BoolOp .Or [a] pos) ta := pw_or1 h
theorem sw_and (h1 : SdT X W a ta) (h2 : SdW X W (.BoolOp .And (b :: rest) pos) tb) : SdW X W (.BoolOp .And (a :: b :: rest) pos) (mAnd ta tb) := pw_imp (pw_and h1 h2) fun _ _ _ h => rdT_and h
theorem sw_or (h1 : SdT X W a ta) (h2 : SdW X W (.BoolOp .Or (b :: rest) pos) tb) : SdW X W (.BoolOp .Or (a :: b :: rest) pos) (mOr ta tb) := pw_imp (pw_or h1 h2) fun _ _ _ h => rdT_or h
theorem st_w (h : SdW X W e ta) : SdT X W e ta := PW.pt h
theorem st_not (h : SdT X W a ta) : SdT X W (.UnaryOp .Not a pos) (mNot ta) := by
  refine pt_imp (pt_not h) fun σ H Q ⟨ρ, st, Z, ι, e, r0, p⟩ => ?_
  refine rdG.mono (kont e r0 p) fun k H1 ⟨st1, Z1, ι1, x, g1, e1, r1, rx, p1⟩ => ?_
  cases (show k = x from rx)
  exact p1 (!k) H1 Z1 ι1 (Grow.refl _ _ _) r1 rfl
/-! and, or, not as values -/
theorem sd_one {op} (h : Sd X W a ma) : Sd X W (.BoolOp op [a] pos) ma := pe_one h
theorem sd_and (h1 : Sd X W a ma) (h2 : Sd X W (.BoolOp .And (b :: rest) pos) mb) : Sd X W (.BoolOp .And (a :: b :: rest) pos) (mAndV ma mb) := by
  refine pe_imp (pe_and h1 h2) fun σ H Q ⟨ρ, st, Z, ι, e, r0, p⟩ => ?_
  refine rdG.mono (kont e r0 p) fun v H1 ⟨st1, Z1, ι1, x, g1, e1, r1, rx, p1⟩ => ?_
  cases x with
  | bl k =>
    cases rx
    cases k with
    | true => exact ⟨true, rfl, iteT ⟨ρ, st1, Z1, ι1, e1, r1, p1⟩⟩
    | false => exact ⟨false, rfl, iteF (p1 _ H1 Z1 ι1 (Grow.refl _ _ _) r1 (.bl false))⟩
  | _ => exact p1.elim
theorem sd_or (h1 : Sd X W a ma) (h2 : Sd X W (.BoolOp .Or (b :: rest) pos) mb) : Sd X W (.BoolOp .Or (a :: b :: rest) pos) (mOrV ma mb) := by
  refine pe_imp (pe_or h1 h2) fun σ H Q ⟨ρ, st, Z, ι, e, r0, p⟩ => ?_
  refine rdG.mono (kont e r0 p) fun v H1 ⟨st1, Z1, ι1, x, g1, e1, r1, rx, p1⟩ => ?_
  cases x with
  | bl k =>
    cases rx
    cases k with
    | false => exact ⟨false, rfl, iteF ⟨ρ, st1, Z1, ι1, e1, r1, p1⟩⟩
    | true => exact ⟨true, rfl, iteT (p1 _ H1 Z1 ι1 (Grow.refl _ _ _) r1 (.bl true))⟩
  | _ => exact p1.elim
theorem sd_not (h1 : Sd X W a ma) : Sd X W (.UnaryOp .Not a pos) (mNotV ma) := by
  refine pe_imp (pe_not h1) fun σ H Q ⟨ρ, st, Z, ι, e, r0, p⟩ => ?_
  refine rdG.mono (kont e r0 p) fun v H1 ⟨st1, Z1, ι1, x, g1, e1, r1, rx, p1⟩ => ?_
  cases x with
  | bl k => cases rx; exact ⟨k, rfl, p1 _ H1 Z1 ι1 (Grow.refl _ _ _) r1 (.bl (!k))⟩
  | _ => exact p1.elim
theorem sd_if {c : Expr} (hc : SdT X W c ta) (h1 : Sd X W a ma) (h2 : Sd X W b mb) : Sd X W (.IfExp c a b pos) (mIfE ta ma mb) := by
  refine pe_imp (pe_ifExp hc h1 h2) fun σ H Q ⟨ρ, st, Z, ι, e, r0, p⟩ => ?_
  refine rdG.mono (kont e r0 p) fun k H1 ⟨st1, Z1, ι1, x, g1, e1, r1, rx, p1⟩ => ?_
  cases (show k = x from rx)
  cases k with
  | true => exact iteT ⟨ρ, st1, Z1, ι1, e1, r1, by simpa using p1⟩
  | false => exact iteF ⟨ρ, st1, Z1, ι1, e1, r1, by simpa using p1⟩
/-! displays -/
theorem sa_nil : SdA X W [] mNil := pa_imp pa_nil fun σ H Q ⟨ρ, st, Z, ι, e, r0, p⟩ => p [] H Z ι (Grow.refl _ _ _) r0 .nil
theorem sa_cons (h1 : Sd X W a ma) (h2 : SdA X W es ms) (hs : starEach (a :: es) X.env = (false, eval a X.env) :: starEach es X.env := by rfl) : SdA X W (a :: es) (mCons ma ms) := by
  refine pa_imp (pa_cons h1 h2 hs) fun σ H Q ⟨ρ, st, Z, ι, e, r0, p⟩ => ?_
  refine rdG.mono (kont e r0 p) fun v H1 ⟨st1, Z1, ι1, x, g1, e1, r1, rx, p1⟩ => ?_
  refine rdG.mono (kont e1 r1 p1) fun vs H2 ⟨st2, Z2, ι2, xs, g2, e2, r2, rxs, p2⟩ => ?_
  exact p2 (v :: vs) H2 Z2 ι2 (Grow.refl _ _ _) r2 (.cons (rx.mono g2.toExt) rxs)
theorem items_sq {K : PySem.W.Frag} {st : Sto} {H Z : Hp} {ι : List Addr} {v : V} {d : D} {ds : List D} (r : Rel K st H Z ι) (h : Rp K Z ι v d) (hi : items? st d = some ds) : ∃ a xs, v = .ref a ∧ (SqT K H a xs ∨ H a = some (.lst xs)) ∧ RpL K Z ι xs ds := by
  cases h with
  | lst h q =>
    cases hi
    exact ⟨_, _, rfl, .inr (r.zin _ _ h), q⟩
  | tup h q =>
    cases hi
    exact ⟨_, _, rfl, .inl (same_sqt r.zin h), q⟩
  | @ref n a h =>
    unfold items? at hi
    dsimp only at hi
    split at hi
    · rename_i l hl
      cases hi
      obtain ⟨_, xs, h2, h3⟩ := r.ob n _ a hl h
      exact ⟨a, xs, rfl, .inr h2, h3⟩
    · cases hi
  | _ => cases hi
theorem sa_star {p : Pos} (h1 : Sd X W a ma) (h2 : SdA X W es ms) (hs : starEach (.Starred a p :: es) X.env = (true, eval a X.env) :: starEach es X.env := by rfl) : SdA X W (.Starred a p :: es) (mStar ma ms) := by
  refine pa_imp (StX.pa_star h1 h2 hs) fun σ H Q ⟨ρ, st, Z, ι, e, r0, p⟩ => ?_
  refine rdG.mono (kont e r0 p) fun v H1 ⟨st1, Z1, ι1, x, g1, e1, r1, rx, p1⟩ => ?_
  cases hi : items? st1 x with
  | none => rw [hi] at p1; exact p1.elim
  | some ds =>
    rw [hi] at p1
    obtain ⟨b, xs, rfl, hq, hr⟩ := items_sq r1 rx hi
    refine ⟨b, xs, rfl, hq.imp id SqL.of, ?_⟩
    refine rdG.mono (kont e1 r1 p1) fun vs H2 ⟨st2, Z2, ι2, ys, g2, e2, r2, rys, p2⟩ => ?_
    exact p2 (xs ++ vs) H2 Z2 ι2 (Grow.refl _ _ _) r2 ((hr.mono g2.toExt).append rys)
theorem sline : (16777216 : Nat) = sizeLine := sizeLine_eq.symm
theorem sd_tup {x1} (h : SdA X W es ms) : Sd X W (.Tuple es x1 pos) (mTup ms) := by
  refine pe_imp (pe_tup h) fun σ H Q ⟨ρ, st, Z, ι, e, r0, p⟩ => ?_
  refine rdG.mono (kont e r0 p) fun vs H1 ⟨st1, Z1, ι1, xs, g1, e1, r1, rx, p1⟩ => ?_
  by_cases hl : xs.length ≤ 16777216
  · rw [if_pos hl] at p1
    refine ⟨by rw [rx.length, ← sline]; exact hl, fun q hq => ?_⟩
    obtain ⟨r2, g2⟩ := r1.zone (o := .tup vs) hq
    exact p1 (.ref q) _ _ _ g2 r2 (.tup (SqT.of upd_same) (rx.mono g2.toExt))
  · rw [if_neg hl] at p1; exact p1.elim
theorem sd_lst (h : SdA X W es ms) : Sd X W (.List es pos) (mLst ms) := by
  refine pe_imp (pe_lst h) fun σ H Q ⟨ρ, st, Z, ι, e, r0, p⟩ => ?_
  refine rdG.mono (kont e r0 p) fun vs H1 ⟨st1, Z1, ι1, xs, g1, e1, r1, rx, p1⟩ => ?_
  by_cases hl : xs.length ≤ 16777216
  · rw [if_pos hl] at p1
    refine ⟨by rw [rx.length, ← sline]; exact hl, fun q hq => ?_⟩
    obtain ⟨r2, g2⟩ := r1.zone (o := .lst vs) hq
    exact p1 (.ref q) _ _ _ g2 r2 (.lst upd_same (rx.mono g2.toExt))
  · rw [if_neg hl] at p1; exact p1.elim
theorem box_lst {K : PySem.W.Frag} {st : Sto} {H Z : Hp} {ι : List Addr} {p : Addr} {vs : List V} {ds : List D} (r : Rel K st H Z ι) (hp : H p = none) (h : RpL K Z ι vs ds) :
    Rel K (st ++ [.lst ds]) (upd H p (.lst vs)) Z (ι ++ [p]) ∧ Grow Z ι H Z (ι ++ [p]) (upd H p (.lst vs)) ∧ Rp K Z (ι ++ [p]) (.ref p) (.ref st.length) := by
  obtain ⟨r2, g2⟩ := r.box (o := .lst vs) (ob := .lst ds) hp fun H' ι' e z g => ⟨z, vs, e, h.mono g⟩
  exact ⟨r2, g2, .ref (by rw [← r.len]; simp)⟩
theorem sd_lstB (h : SdA X W es ms) : Sd X W (.List es pos) (mLstB ms) := by
  refine pe_imp (pe_lst h) fun σ H Q ⟨ρ, st, Z, ι, e, r0, p⟩ => ?_
  refine rdG.mono (kont e r0 p) fun vs H1 ⟨st1, Z1, ι1, xs, g1, e1, r1, rx, p1⟩ => ?_
  by_cases hl : xs.length ≤ 16777216
  · rw [if_pos hl] at p1
    refine ⟨by rw [rx.length, ← sline]; exact hl, fun q hq => ?_⟩
    obtain ⟨r2, g2, h2⟩ := box_lst r1 hq rx
    exact p1 (.ref q) _ _ _ g2 r2 h2
  · rw [if_neg hl] at p1; exact p1.elim
end
end MP

set_option Elab.async false
set_option linter.all false
set_option maxRecDepth 100000
set_option maxHeartbeats 4000000
/-! MP3: statements, targets, loops, comprehensions, defs and their calls -/
namespace MP
open PySem L2

inductive F where
  | nx (ρ : Env) (s : Sto)
  | rt (d : D) (s : Sto)
  | bk (ρ : Env) (s : Sto)
  | ct (ρ : Env) (s : Sto)
  | ex (x : Xc) (ρ : Env) (s : Sto)
abbrev MS := Env → Sto → Option F
def bndS {α : Type} (x : RO α) (ρ : Env) (f : α → Sto → Option F) : Option F := match x with
  | some (.ok a s) => f a s
  | some (.ex e s) => some (.ex e ρ s)
  | none => none
@[simp] theorem bndS_ok {α : Type} (a : α) (s : Sto) (ρ : Env) (f : α → Sto → Option F) : bndS (some (.ok a s)) ρ f = f a s := rfl
@[simp] theorem bndS_ex {α : Type} (x : Xc) (s : Sto) (ρ : Env) (f : α → Sto → Option F) : bndS (some (.ex x s) : RO α) ρ f = some (.ex x ρ s) := rfl
@[simp] theorem bndS_none {α : Type} (ρ : Env) (f : α → Sto → Option F) : bndS (none : RO α) ρ f = none := rfl
def thenS (x : Option F) (f : MS) : Option F := match x with
  | some (.nx ρ s) => f ρ s
  | r => r
@[simp] theorem thenS_nx (ρ : Env) (s : Sto) (f : MS) : thenS (some (.nx ρ s)) f = f ρ s := rfl
@[simp] theorem thenS_rt (d : D) (s : Sto) (f : MS) : thenS (some (.rt d s)) f = some (.rt d s) := rfl
@[simp] theorem thenS_bk (ρ : Env) (s : Sto) (f : MS) : thenS (some (.bk ρ s)) f = some (.bk ρ s) := rfl
@[simp] theorem thenS_ct (ρ : Env) (s : Sto) (f : MS) : thenS (some (.ct ρ s)) f = some (.ct ρ s) := rfl
@[simp] theorem thenS_ex (x : Xc) (ρ : Env) (s : Sto) (f : MS) : thenS (some (.ex x ρ s)) f = some (.ex x ρ s) := rfl
@[simp] theorem thenS_none (f : MS) : thenS none f = none := rfl
def PostS (K : PySem.W.Frag) (W : WX) (Z : Hp) (ι : List Addr) (H : Hp) (E : Ends) : Option F → Prop
  | some (.nx ρ st) => ∀ σ' H' Z' ι', Grow Z ι H Z' ι' H' → Rel K st H' Z' ι' → EnvR K Z' ι' ρ σ' → E.nx σ' H'
  | some (.rt d st) => ∀ v H' Z' ι', Grow Z ι H Z' ι' H' → Rel K st H' Z' ι' → Rp K Z' ι' v d → E.rt v H'
  | some (.bk ρ st) => ∀ σ' H' Z' ι', Grow Z ι H Z' ι' H' → Rel K st H' Z' ι' → EnvR K Z' ι' ρ σ' → E.bk σ' H'
  | some (.ct ρ st) => ∀ σ' H' Z' ι', Grow Z ι H Z' ι' H' → Rel K st H' Z' ι' → EnvR K Z' ι' ρ σ' → E.ct σ' H'
  | some (.ex x ρ st) => ∀ c d σ' H' Z' ι', Grow Z ι H Z' ι' H' → Rel K st H' Z' ι' → EnvR K Z' ι' ρ σ' → XR K Z' ι' H' x c d → W c d σ' H'
  | none => False
def rdS (K : PySem.W.Frag) (W : WX) (m : MS) : TS := fun E σ H => ∃ ρ st Z ι, EnvR K Z ι ρ σ ∧ Rel K st H Z ι ∧ PostS K W Z ι H E (m ρ st)
abbrev SdS (X : Cx) (W : WX) (s : Stmt) (m : MS) : Prop := PS X s (rdS X.K W m)
abbrev SdB (X : Cx) (W : WX) (s : List Stmt) (m : MS) : Prop := PSs X s (rdS X.K W m)
section
variable {K : PySem.W.Frag} {W : WX} {σ : L2.St} {H H1 Z Z1 : Hp} {ι ι1 : List Addr} {E E' : Ends} {α β : Type} {rep : Hp → List Addr → β → α → Prop}
theorem PostS.grow {x : Option F} (h : PostS K W Z ι H E x) (g : Grow Z ι H Z1 ι1 H1) : PostS K W Z1 ι1 H1 E x := by
  cases x with
  | none => exact h
  | some r => cases r with
    | nx ρ st => exact fun σ' H' Z' ι' g' r e => h σ' H' Z' ι' (g.trans g') r e
    | rt d st => exact fun v H' Z' ι' g' r e => h v H' Z' ι' (g.trans g') r e
    | bk ρ st => exact fun σ' H' Z' ι' g' r e => h σ' H' Z' ι' (g.trans g') r e
    | ct ρ st => exact fun σ' H' Z' ι' g' r e => h σ' H' Z' ι' (g.trans g') r e
    | ex x ρ st => exact fun c d σ' H' Z' ι' g' r e q => h c d σ' H' Z' ι' (g.trans g') r e q
theorem skont {m : Env → Sto → RO α} {f : α → Sto → Option F} {ρ : Env} {st : Sto} (e : EnvR K Z ι ρ σ) (r : Rel K st H Z ι) (p : PostS K W Z ι H E (bndS (m ρ st) ρ f)) :
    rdG K W rep m σ H (fun b H1 => ∃ st1 Z1 ι1 a, Grow Z ι H Z1 ι1 H1 ∧ EnvR K Z1 ι1 ρ σ ∧ Rel K st1 H1 Z1 ι1 ∧ rep Z1 ι1 b a ∧ PostS K W Z1 ι1 H1 E (f a st1)) := by
  refine ⟨ρ, st, Z, ι, e, r, ?_⟩
  cases hx : m ρ st with
  | none => rw [hx] at p; exact p.elim
  | some q => cases q with
    | ok a st1 =>
      rw [hx] at p
      exact fun b H' Z' ι' g r' q' => ⟨st1, Z', ι', a, g, e.mono g.toExt, r', q', (show PostS K W Z ι H E (f a st1) from p).grow g⟩
    | ex x st1 =>
      rw [hx] at p
      exact fun c d H' Z' ι' g r' q' => p c d σ H' Z' ι' g r' (e.mono g.toExt) q'
theorem PostS.nx_ {ρ : Env} {st : Sto} (p : PostS K W Z ι H E (some (.nx ρ st))) (e : EnvR K Z ι ρ σ) (r : Rel K st H Z ι) : E.nx σ H := p σ H Z ι (Grow.refl _ _ _) r e
end
/-! ### combinators -/
def mSeq (a b : MS) : MS := fun ρ s => thenS (a ρ s) b
def mNext : MS := fun ρ s => some (.nx ρ s)
def mBrk : MS := fun ρ s => some (.bk ρ s)
def mCnt : MS := fun ρ s => some (.ct ρ s)
def mExpr (a : ME) : MS := fun ρ s => bndS (a ρ s) ρ fun _ s => some (.nx ρ s)
def mRet (a : ME) : MS := fun ρ s => bndS (a ρ s) ρ fun d s => some (.rt d s)
def mRetN : MS := fun ρ s => some (.rt .non s)
def mIf (c : MT) (a b : MS) : MS := fun ρ s => bndS (c ρ s) ρ fun k s => if k = true then a ρ s else b ρ s
def mSet (i : Nat) (a : ME) : MS := fun ρ s => bndS (a ρ s) ρ fun d s => some (.nx (ρ.set i (some d)) s)
/-- a, b = x, y -/
def mPar (i j : Nat) (a : MA) : MS := fun ρ s => bndS (a ρ s) ρ fun ds s => match ds with
  | [x, y] => some (.nx ((ρ.set i (some x)).set j (some y)) s)
  | _ => none
def mPar3 (i j k : Nat) (a : MA) : MS := fun ρ s => bndS (a ρ s) ρ fun ds s => match ds with
  | [x, y, z] => some (.nx (((ρ.set i (some x)).set j (some y)).set k (some z)) s)
  | _ => none
section
variable {X : Cx} {W : WX} {a b e : Expr} {es : List Expr} {pos : Pos} {ma mb : ME} {ms : MA} {st : Stmt} {sts : List Stmt} {m m' : MS}
theorem sb_nil : SdB X W [] mNext := pss_imp pss_nil fun E σ H ⟨ρ, st, Z, ι, e, r, p⟩ => PostS.nx_ p e r
theorem sb_one (h : SdS X W st m) : SdB X W [st] m := pss_one h
theorem sb_cons (h1 : SdS X W st m) (h2 : SdB X W sts m') : SdB X W (st :: sts) (mSeq m m') := by
  refine pss_imp (pss_cons h1 h2) fun E σ H ⟨ρ, st, Z, ι, e, r, p⟩ => ?_
  refine ⟨ρ, st, Z, ι, e, r, ?_⟩
  unfold mSeq at p
  cases hx : m ρ st with
  | none => rw [hx] at p; exact p.elim
  | some q => rw [hx] at p; cases q with
    | nx ρ1 st1 => exact fun σ' H' Z' ι' g r' e' => ⟨ρ1, st1, Z', ι', e', r', (show PostS X.K W Z ι H E (m' ρ1 st1) from p).grow g⟩
    | _ => exact p
theorem ss_pass : SdS X W (.Pass pos) mNext := ps_imp ps_pass fun E σ H ⟨ρ, st, Z, ι, e, r, p⟩ => PostS.nx_ p e r
theorem ss_break : SdS X W (.Break pos) mBrk := ps_imp ps_break fun E σ H ⟨ρ, st, Z, ι, e, r, p⟩ => p σ H Z ι (Grow.refl _ _ _) r e
theorem ss_continue : SdS X W (.Continue pos) mCnt := ps_imp ps_continue fun E σ H ⟨ρ, st, Z, ι, e, r, p⟩ => p σ H Z ι (Grow.refl _ _ _) r e
theorem ss_expr (h : Sd X W e ma) (hs : swapsWith e none pos.line X.env = pure false := by rfl) : SdS X W (.Expr e pos) (mExpr ma) := by
  refine ps_imp (ps_expr h hs) fun E σ H ⟨ρ, st, Z, ι, e, r, p⟩ => ?_
  exact rdG.mono (skont e r p) fun v H1 ⟨st1, Z1, ι1, x, g1, e1, r1, rx, p1⟩ => PostS.nx_ p1 e1 r1
theorem ss_ret (h : Sd X W e ma) : SdS X W (.Return (some e) pos) (mRet ma) := by
  refine ps_imp (ps_ret h) fun E σ H ⟨ρ, st, Z, ι, e, r, p⟩ => ?_
  exact rdG.mono (skont e r p) fun v H1 ⟨st1, Z1, ι1, x, g1, e1, r1, rx, p1⟩ => p1 v H1 Z1 ι1 (Grow.refl _ _ _) r1 rx
theorem ss_retN : SdS X W (.Return none pos) mRetN := ps_imp ps_retN fun E σ H ⟨ρ, st, Z, ι, e, r, p⟩ => p .non H Z ι (Grow.refl _ _ _) r .non
theorem ss_if {c : Expr} {s1 s2 : List Stmt} {tc : MT} (hc : SdT X W c tc) (h1 : SdB X W s1 m) (h2 : SdB X W s2 m') : SdS X W (.If c s1 s2 pos) (mIf tc m m') := by
  refine ps_imp (ps_if hc h1 h2) fun E σ H ⟨ρ, st, Z, ι, e, r, p⟩ => ?_
  refine rdG.mono (skont e r p) fun k H1 ⟨st1, Z1, ι1, x, g1, e1, r1, rx, p1⟩ => ?_
  cases (show k = x from rx)
  cases k with
  | true => exact iteT ⟨ρ, st1, Z1, ι1, e1, r1, by simpa using p1⟩
  | false => exact iteF ⟨ρ, st1, Z1, ι1, e1, r1, by simpa using p1⟩
theorem ss_set {i : Nat} {x : Str} {p' : Pos} (hN : X.N.Nodup) (h : Sd X W e ma) (hi : X.N[i]? = some x := by rfl) (hx : Loc X.env.scope x := by first | exact Or.inl rfl | exact Or.inr rfl) (hs : swapsWith e (some (.Name x p')) pos.line X.env = pure false := by rfl)
    (hf : X.fn x = true ∨ X.env.scope.names.lookup x = some .local := by first | exact .inl rfl | exact .inr rfl) : SdS X W (.Assign [.Name x p'] e pos) (mSet i ma) := by
  refine ps_imp (ps_set hN hi hx h hs hf) fun E σ H ⟨ρ, st, Z, ι, e, r, p⟩ => ?_
  exact rdG.mono (skont e r p) fun v H1 ⟨st1, Z1, ι1, x, g1, e1, r1, rx, p1⟩ => PostS.nx_ p1 (e1.set i rx) r1
theorem ss_par {i j : Nat} {x y : Str} {px py pt : Pos} {kt k2 pt2} (hN : X.N.Nodup) (ha : SdA X W [a, b] ms) (hc : X.calm = true := by rfl) (hi : X.N[i]? = some x := by rfl) (hj : X.N[j]? = some y := by rfl) (hij : i ≠ j := by decide)
    (hx : X.env.scope.names.lookup x = some .local := by rfl) (hy : X.env.scope.names.lookup y = some .local := by rfl)
    (hw : swappedStores [.Tuple [.Name x px, .Name y py] kt pt] (.Tuple [a, b] k2 pt2) X.env = pure (some [x, y]) := by rfl)
    (hs : swapsWithSole [.Tuple [.Name x px, .Name y py] kt pt] (.Tuple [a, b] k2 pt2) pos.line X.env = pure false := by rfl) :
    SdS X W (.Assign [.Tuple [.Name x px, .Name y py] kt pt] (.Tuple [a, b] k2 pt2) pos) (mPar i j ms) := by
  refine ps_imp (ps_par hc hN hi hj hij hx hy ha hw hs) fun E σ H ⟨ρ, st, Z, ι, e, r, p⟩ => ?_
  refine rdG.mono (skont e r p) fun vs H1 ⟨st1, Z1, ι1, xs, g1, e1, r1, rx, p1⟩ => ?_
  cases rx with
  | nil => exact p1.elim
  | cons h1 q1 => cases q1 with
    | nil => exact p1.elim
    | cons h2 q2 => cases q2 with
      | nil => exact ⟨_, _, rfl, PostS.nx_ p1 ((e1.set i h1).set j h2) r1⟩
      | cons _ _ => exact p1.elim
theorem ss_par3 {i j l : Nat} {x y z : Str} {c : Expr} {px py pz pt : Pos} {kt k2 pt2} (hN : X.N.Nodup) (ha : SdA X W [a, b, c] ms) (hc : X.calm = true := by rfl) (hi : X.N[i]? = some x := by rfl) (hj : X.N[j]? = some y := by rfl) (hl : X.N[l]? = some z := by rfl)
    (hij : i ≠ j := by decide) (hil : i ≠ l := by decide) (hjl : j ≠ l := by decide)
    (hx : X.env.scope.names.lookup x = some .local := by rfl) (hy : X.env.scope.names.lookup y = some .local := by rfl) (hz : X.env.scope.names.lookup z = some .local := by rfl)
    (hw : swappedStores [.Tuple [.Name x px, .Name y py, .Name z pz] kt pt] (.Tuple [a, b, c] k2 pt2) X.env = pure (some [x, y, z]) := by rfl)
    (hs : swapsWithSole [.Tuple [.Name x px, .Name y py, .Name z pz] kt pt] (.Tuple [a, b, c] k2 pt2) pos.line X.env = pure false := by rfl) :
    SdS X W (.Assign [.Tuple [.Name x px, .Name y py, .Name z pz] kt pt] (.Tuple [a, b, c] k2 pt2) pos) (mPar3 i j l ms) := by
  refine ps_imp (ps_par3 hc hN hi hj hl hij hil hjl hx hy hz ha hw hs) fun E σ H ⟨ρ, st, Z, ι, e, r, p⟩ => ?_
  refine rdG.mono (skont e r p) fun vs H1 ⟨st1, Z1, ι1, xs, g1, e1, r1, rx, p1⟩ => ?_
  cases rx with
  | nil => exact p1.elim
  | cons h1 q1 => cases q1 with
    | nil => exact p1.elim
    | cons h2 q2 => cases q2 with
      | nil => exact p1.elim
      | cons h3 q3 => cases q3 with
        | nil => exact ⟨_, _, _, rfl, PostS.nx_ p1 (((e1.set i h1).set j h2).set l h3) r1⟩
        | cons _ _ => exact p1.elim
end
/-! ### targets -/
abbrev MG := D → Env → Sto → RO Env
def rdTG (K : PySem.W.Frag) (W : WX) (m : MG) : TG := fun v σ H Q => ∃ ρ st Z ι d, EnvR K Z ι ρ σ ∧ Rel K st H Z ι ∧ Rp K Z ι v d ∧ Post K W σ Z ι H (fun Z ι σ' ρ' => EnvR K Z ι ρ' σ') (fun σ' H' => Q σ' H') (m d ρ st)
abbrev SdG (X : Cx) (W : WX) (tg : Expr) (m : MG) : Prop := PG X tg (rdTG X.K W m)
abbrev MGs := List D → Env → Sto → RO Env
def rdTGs (K : PySem.W.Frag) (W : WX) (m : MGs) : TGs := fun vs σ H Q => ∃ ρ st Z ι ds, EnvR K Z ι ρ σ ∧ Rel K st H Z ι ∧ RpL K Z ι vs ds ∧ Post K W σ Z ι H (fun Z ι σ' ρ' => EnvR K Z ι ρ' σ') (fun σ' H' => Q σ' H') (m ds ρ st)
abbrev SdGs (X : Cx) (W : WX) (tg : List Expr) (m : MGs) : Prop := PGs X tg (rdTGs X.K W m)
theorem pg_imp {X : Cx} {e : Expr} {t t' : TG} (h : PG X e t) (f : ∀ v σ H Q, t' v σ H Q → t v σ H Q) : PG X e t' := ⟨fun pins s σ H v u Q I r q => h.run pins s σ H v u Q I r (f v σ H Q q)⟩
theorem pgs_imp {X : Cx} {e : List Expr} {t t' : TGs} (h : PGs X e t) (f : ∀ v σ H Q, t' v σ H Q → t v σ H Q) : PGs X e t' := ⟨fun pins s σ H v u Q I r q => h.run pins s σ H v u Q I r (f v σ H Q q)⟩
def gmName (i : Nat) : MG := fun d ρ s => some (.ok (ρ.set i (some d)) s)
def gmNil : MGs := fun ds ρ s => match ds with
  | [] => some (.ok ρ s)
  | _ => none
/-- the first target stored, then the rest -/
def gmCons (g : MG) (r : MGs) : MGs := fun ds ρ s => match ds with
  | d :: ds => bnd (g d ρ s) fun ρ s => r ds ρ s
  | [] => none
def gmTup (r : MGs) : MG := fun d ρ s => match d with
  | .tup ds => r ds ρ s
  | _ => none
/-- target = value -/
def mAsg (a : ME) (g : MG) : MS := fun ρ s => bndS (a ρ s) ρ fun d s => bndS (g d ρ s) ρ fun ρ s => some (.nx ρ s)
section
variable {X : Cx} {W : WX} {e tg : Expr} {es : List Expr} {pos : Pos} {ma : ME} {g : MG} {gs : MGs}
theorem sg_name {i : Nat} {x : Str} (hN : X.N.Nodup) (hi : X.N[i]? = some x := by rfl) (hx : Loc X.env.scope x := by first | exact Or.inl rfl | exact Or.inr rfl) (hf : X.fn x = true ∨ X.env.scope.names.lookup x = some .local := by first | exact .inl rfl | exact .inr rfl) : SdG X W (.Name x pos) (gmName i) :=
  pg_imp (pg_name hN hi hx hf) fun v σ H Q ⟨ρ, st, Z, ι, d, e, r, h, p⟩ => p _ H Z ι (Grow.refl _ _ _) r (e.set i h)
theorem sgs_nil : SdGs X W [] gmNil := pgs_imp pgs_nil fun vs σ H Q ⟨ρ, st, Z, ι, ds, e, r, h, p⟩ => by
  cases h with
  | nil => exact ⟨rfl, p σ H Z ι (Grow.refl _ _ _) r e⟩
  | cons _ _ => exact p.elim
/-- only names among the targets: the slots are the def's own -/
theorem sgs_cons (h1 : SdG X W e g) (h2 : SdGs X W es gs) (hs : (assignEach (e :: es) X.env).map (·.2) = assign e X.env :: (assignEach es X.env).map (·.2) := by rfl) (hw : ∀ d ρ s x s', g d ρ s ≠ some (.ex x s') := by intro _ _ _ _ _ h; cases h)
    (hw2 : ∀ d ρ s x s', gs d ρ s ≠ some (.ex x s')) : SdGs X W (e :: es) (gmCons g gs) := pgs_imp (pgs_cons h1 h2 hs) fun vs σ H Q ⟨ρ, st, Z, ι, ds, e, r, h, p⟩ => by
  cases h with
  | nil => exact p.elim
  | @cons v vs d ds h q =>
    refine ⟨v, vs, rfl, ρ, st, Z, ι, d, e, r, h, ?_⟩
    have p' : Post X.K W σ Z ι H (fun Z ι σ' ρ' => EnvR X.K Z ι ρ' σ') (fun σ' H' => Q σ' H') (bnd (g d ρ st) fun ρ s => gs ds ρ s) := p
    cases hx : g d ρ st with
    | none => rw [hx] at p'; exact p'.elim
    | some q' => cases q' with
      | ok ρ1 st1 =>
        rw [hx] at p'
        intro σ1 H1 Z1 ι1 g1 r1 e1
        refine ⟨ρ1, st1, Z1, ι1, ds, e1, r1, q.mono g1.toExt, ?_⟩
        have p2 : Post X.K W σ Z ι H (fun Z ι σ' ρ' => EnvR X.K Z ι ρ' σ') (fun σ' H' => Q σ' H') (gs ds ρ1 st1) := p'
        cases hy : gs ds ρ1 st1 with
        | none => rw [hy] at p2; exact p2.elim
        | some q2 => cases q2 with
          | ok ρ2 st2 => rw [hy] at p2; exact fun σ2 H2 Z2 ι2 g2 r2 e2 => p2 σ2 H2 Z2 ι2 (g1.trans g2) r2 e2
          | ex x s' => exact absurd hy (hw2 _ _ _ _ _)
      | ex x s' => exact absurd hx (hw _ _ _ _ _)
theorem sg_tup {k : Nat} {n : Nat} (hc : X.calm = true) (h : SdGs X W es gs) (hl : ∀ ds ρ s r, gs ds ρ s = some r → ds.length = n) (hn : (assignEach es X.env).length = n := by rfl) (hst : (assignEach es X.env).findIdx? (·.1) = none := by rfl) :
    SdG X W (.Tuple es k pos) (gmTup gs) := pg_imp (pg_tup hc h hn hst) fun v σ H Q ⟨ρ, st, Z, ι, d, e, r, h, p⟩ => by
  cases h with
  | @tup a xs ds hq hr =>
    have p' : Post X.K W σ Z ι H (fun Z ι σ' ρ' => EnvR X.K Z ι ρ' σ') (fun σ' H' => Q σ' H') (gs ds ρ st) := p
    refine ⟨a, xs, rfl, same_sqt r.zin hq, ?_, ρ, st, Z, ι, ds, e, r, hr, p'⟩
    cases hy : gs ds ρ st with
    | none => rw [hy] at p'; exact p'.elim
    | some q => rw [hr.length]; exact hl _ _ _ _ hy
  | _ => exact p.elim
theorem ss_asg (he : Sd X W e ma) (hg : SdG X W tg g) (hw : ∀ d ρ s x s', g d ρ s ≠ some (.ex x s')) (hs : swapsWithSole [tg] e pos.line X.env = pure false := by rfl) (hv : swappedStores [tg] e X.env = pure none := by rfl) (h1 : (assignEach [tg] X.env).map (·.2) = [assign tg X.env] := by rfl) :
    SdS X W (.Assign [tg] e pos) (mAsg ma g) := by
  refine ps_imp (ps_asg he hg hs hv h1) fun E σ H ⟨ρ, st, Z, ι, e, r, p⟩ => ?_
  refine rdG.mono (skont e r p) fun v H1 ⟨st1, Z1, ι1, d, g1, e1, r1, rx, p1⟩ => ?_
  refine ⟨ρ, st1, Z1, ι1, d, e1, r1, rx, ?_⟩
  cases hx : g d ρ st1 with
  | none => rw [hx] at p1; exact p1.elim
  | some q => cases q with
    | ok ρ2 st2 =>
      rw [hx] at p1
      exact fun σ' H' Z' ι' g r e => p1 σ' H' Z' ι' g r e
    | ex x s' => exact absurd hx (hw _ _ _ _ _)
theorem gmName_noex {i : Nat} : ∀ d ρ s x s', gmName i d ρ s ≠ some (.ex x s') := fun _ _ _ _ _ h => by cases h
theorem gmNil_noex : ∀ d ρ s x s', gmNil d ρ s ≠ some (.ex x s') := fun d _ _ _ _ h => by cases d <;> cases h
theorem gmCons_noex {g : MG} {gs : MGs} (h1 : ∀ d ρ s x s', g d ρ s ≠ some (.ex x s')) (h2 : ∀ d ρ s x s', gs d ρ s ≠ some (.ex x s')) : ∀ d ρ s x s', gmCons g gs d ρ s ≠ some (.ex x s') := fun d ρ s x s' h => by
  cases d with
  | nil => cases h
  | cons d ds =>
    have h' : bnd (g d ρ s) (fun ρ s => gs ds ρ s) = some (.ex x s') := h
    cases hx : g d ρ s with
    | none => rw [hx] at h'; cases h'
    | some q => cases q with
      | ok ρ1 st1 => rw [hx] at h'; exact h2 _ _ _ _ _ h'
      | ex y s2 => exact h1 _ _ _ _ _ hx
theorem gmTup_noex {gs : MGs} (h2 : ∀ d ρ s x s', gs d ρ s ≠ some (.ex x s')) : ∀ d ρ s x s', gmTup gs d ρ s ≠ some (.ex x s') := fun d ρ s x s' h => by
  cases d with
  | tup ds => exact h2 _ _ _ _ _ h
  | _ => cases h
theorem gmNil_len : ∀ ds ρ s r, gmNil ds ρ s = some r → ds.length = 0 := fun ds ρ s r h => by cases ds with
  | nil => rfl
  | cons _ _ => cases h
theorem gmCons_len {g : MG} {gs : MGs} {n : Nat} (h2 : ∀ ds ρ s r, gs ds ρ s = some r → ds.length = n) (h1 : ∀ d ρ s x s', g d ρ s ≠ some (.ex x s')) : ∀ ds ρ s r, gmCons g gs ds ρ s = some r → ds.length = n + 1 := fun ds ρ s r h => by
  cases ds with
  | nil => cases h
  | cons d ds =>
    have h' : bnd (g d ρ s) (fun ρ s => gs ds ρ s) = some r := h
    cases hx : g d ρ s with
    | none => rw [hx] at h'; cases h'
    | some q => cases q with
      | ok ρ1 st1 => rw [hx] at h'; rw [List.length_cons, h2 _ _ _ _ h']
      | ex y s2 => exact absurd hx (h1 _ _ _ _ _)
end
end MP

set_option Elab.async false
set_option linter.all false
set_option maxRecDepth 100000
set_option maxHeartbeats 4000000
/-! MP4: loops, comprehensions, defs and calls -/
namespace MP
open PySem L2

/-! ### what is walked -/
/-- the walk J gives the items ds, whatever the state, as long as it goes on from here -/
def WalkM (K : PySem.W.Frag) (Z : Hp) (ι : List Addr) (J : It) (src : List D × (Sto → Prop)) : Prop := ∀ (i : Nat) (st : Sto) (H Z1 : Hp) (ι1 : List Addr), Ext Z ι Z1 ι1 → Rel K st H Z1 ι1 → src.2 st →
  (∀ d, src.1[i]? = some d → J.go i H ∧ ∀ x H', J.yld i H x H' → ∃ Z2, Grow Z1 ι1 H Z2 ι1 H' ∧ Rel K st H' Z2 ι1 ∧ Rp K Z2 ι1 x d) ∧ (i = src.1.length → J.stop i H)
abbrev MI := Env → Sto → RO (List D × (Sto → Prop))
abbrev rdI (K : PySem.W.Frag) (W : WX) (m : MI) : TI := rdG K W (WalkM K) m
abbrev SdI (X : Cx) (W : WX) (tg iter : Expr) (m : MI) : Prop := PI X tg iter (rdI X.K W m)
theorem pi_imp {X : Cx} {tg e : Expr} {t t' : TI} (h : PI X tg e t) (f : ∀ σ H Q, t' σ H Q → t σ H Q) : PI X tg e t' := ⟨fun pins s σ H Q I q => h.run pins s σ H Q I (f σ H Q q)⟩
theorem WalkM.mono {K : PySem.W.Frag} {Z Z' : Hp} {ι ι' : List Addr} {J : It} {src : List D × (Sto → Prop)} (h : WalkM K Z ι J src) (g : Ext Z ι Z' ι') : WalkM K Z' ι' J src := fun i st H Z1 ι1 g' r => h i st H Z1 ι1 (g.trans g') r
/-! ### for -/
open Classical in
/-- a thing that is walked must stand as it stood -/
noncomputable def still {α : Type} (G : Sto → Prop) (s : Sto) (x : Option α) : Option α := if G s then x else none
theorem still_yes {α : Type} {G : Sto → Prop} {s : Sto} (h : G s) (x : Option α) : still G s x = x := if_pos h
theorem still_inv {α : Type} {G : Sto → Prop} {s : Sto} {x : Option α} {a : α} (h : still G s x = some a) : G s ∧ x = some a := by
  unfold still at h
  split at h
  · rename_i hg; exact ⟨hg, h⟩
  · cases h
abbrev any_ : Sto → Prop := fun _ => True
@[simp] theorem still_any {α : Type} (s : Sto) (x : Option α) : still any_ s x = x := still_yes trivial x
noncomputable def forL (G : Sto → Prop) (g : MG) (body : MS) : List D → MS
  | [], ρ, s => still G s (some (.nx ρ s))
  | d :: ds, ρ, s => still G s (bndS (g d ρ s) ρ fun ρ1 s1 => match body ρ1 s1 with
    | some (.nx ρ2 s2) => forL G g body ds ρ2 s2
    | some (.ct ρ2 s2) => forL G g body ds ρ2 s2
    | some (.bk ρ2 s2) => some (.nx ρ2 s2)
    | r => r)
noncomputable def mFor (mi : MI) (g : MG) (body : MS) : MS := fun ρ s => bndS (mi ρ s) ρ fun src s => forL src.2 g body src.1 ρ s
theorem PostS.still {K : PySem.W.Frag} {W : WX} {Z H : Hp} {ι : List Addr} {E : Ends} {G : Sto → Prop} {s : Sto} {x : Option F} (p : PostS K W Z ι H E (still G s x)) : G s ∧ PostS K W Z ι H E x := by
  unfold MP.still at p
  split at p
  · rename_i h; exact ⟨h, p⟩
  · exact p.elim
theorem forL_post {K : PySem.W.Frag} {W : WX} {E : Ends} {g : MG} {body : MS} {J : It} {Z0 : Hp} {ι0 : List Addr} {all : List D} {G : Sto → Prop} (hw : WalkM K Z0 ι0 J (all, G)) (hx : ∀ d ρ s x s', g d ρ s ≠ some (.ex x s')) {σ : L2.St} {H : Hp}
    (h0 : ∃ ρ st Z ι, Ext Z0 ι0 Z ι ∧ EnvR K Z ι ρ σ ∧ Rel K st H Z ι ∧ PostS K W Z ι H E (forL G g body all ρ st)) :
    ∃ Wt : Nat → Nat → L2.St → Hp → Prop, (∃ m, Wt 0 m σ H) ∧ ∀ i m σ H, Wt i m σ H → (J.stop i H ∧ E.nx σ H) ∨ (J.go i H ∧ ∃ N : L2.St → Hp → Prop, (∀ σ' H', N σ' H' → ∃ m', m' < m ∧ Wt (i + 1) m' σ' H') ∧ ∀ x H', J.yld i H x H' → rdTG K W g x σ H' fun σ2 H2 => rdS K W body { E with nx := N, ct := N, bk := E.nx } σ2 H2) := by
  refine ⟨fun i m σ H => m = all.length - i ∧ i ≤ all.length ∧ ∃ ρ st Z ι, Ext Z0 ι0 Z ι ∧ EnvR K Z ι ρ σ ∧ Rel K st H Z ι ∧ PostS K W Z ι H E (forL G g body (all.drop i) ρ st), ⟨all.length, rfl, Nat.zero_le _, by simpa using h0⟩, ?_⟩
  rintro i m σ H ⟨rfl, hi, ρ, st, Z, ι, g0, e, r, p⟩
  by_cases hlt : i < all.length
  · have hd : all[i]? = some all[i] := List.getElem?_eq_getElem hlt
    have hdrop : all.drop i = all[i] :: all.drop (i + 1) := List.drop_eq_getElem_cons hlt
    rw [hdrop] at p
    obtain ⟨hG, p⟩ := PostS.still p
    obtain ⟨go, yl⟩ := (hw i st H Z ι g0 r hG).1 _ hd
    refine .inr ⟨go, fun σ' H' => i + 1 ≤ all.length ∧ ∃ ρ st Z ι, Ext Z0 ι0 Z ι ∧ EnvR K Z ι ρ σ' ∧ Rel K st H' Z ι ∧ PostS K W Z ι H' E (forL G g body (all.drop (i + 1)) ρ st), fun σ' H' hN => ⟨all.length - (i + 1), by omega, rfl, hN.1, hN.2⟩, fun x H' y => ?_⟩
    obtain ⟨Z2, g2, r2, rx⟩ := yl x H' y
    have p := p.grow g2
    refine ⟨ρ, st, Z2, ι, all[i], e.mono g2.toExt, r2, rx, ?_⟩
    cases hg : g all[i] ρ st with
    | none => rw [hg] at p; exact p.elim
    | some q => cases q with
      | ex x s' => exact absurd hg (hx _ _ _ _ _)
      | ok ρ1 st1 =>
        rw [hg] at p
        intro σ3 H3 Z3 ι3 g3 r3 e3
        refine ⟨ρ1, st1, Z3, ι3, e3, r3, ?_⟩
        have p := p.grow g3
        dsimp only [bndS] at p
        cases hb : body ρ1 st1 with
        | none => rw [hb] at p; exact p.elim
        | some f =>
          rw [hb] at p
          cases f with
          | nx ρ2 st2 => exact fun σ4 H4 Z4 ι4 g4 r4 e4 => ⟨hlt, ρ2, st2, Z4, ι4, ((g0.trans g2.toExt).trans g3.toExt).trans g4.toExt, e4, r4, p.grow g4⟩
          | ct ρ2 st2 => exact fun σ4 H4 Z4 ι4 g4 r4 e4 => ⟨hlt, ρ2, st2, Z4, ι4, ((g0.trans g2.toExt).trans g3.toExt).trans g4.toExt, e4, r4, p.grow g4⟩
          | bk ρ2 st2 => exact p
          | rt d st2 => exact p
          | ex x ρ2 st2 => exact p
  · have he : i = all.length := by omega
    subst he
    rw [List.drop_length] at p
    obtain ⟨hG, p⟩ := PostS.still p
    exact .inl ⟨(hw _ st H Z ι g0 r hG).2 rfl, PostS.nx_ p e r⟩
section
variable {X : Cx} {W : WX} {tg iter : Expr} {body : List Stmt} {pos : Pos} {mi : MI} {g : MG} {mb : MS}
theorem ss_for (hp : PassesOwn (model X.prog X.w) X.A X.env X.xe) (hc : X.calm = true) (hi : SdI X W tg iter mi) (hg : SdG X W tg g) (hb : SdB X W body mb) (hx : ∀ d ρ s x s', g d ρ s ≠ some (.ex x s')) (hs : ∀ x, foldedSetIterable iter X.env x = pure x := by intro _; rfl) :
    SdS X W (.For tg iter body [] pos) (mFor mi g mb) := by
  refine ps_imp (ps_for hp hc hi hg hb hs) fun E σ H ⟨ρ, st, Z, ι, e, r, p⟩ => ?_
  refine rdG.mono (skont e r p) fun J H1 ⟨st1, Z1, ι1, ds, g1, e1, r1, hw, p1⟩ => ?_
  exact forL_post hw hx ⟨ρ, st1, Z1, ι1, Ext.refl _ _, e1, r1, p1⟩
end
/-! ### while -/
def whileL (c : MT) (body : MS) : Nat → MS
  | 0, _, _ => none
  | n + 1, ρ, s => bndS (c ρ s) ρ fun k s1 => if k = true then (match body ρ s1 with
    | some (.nx ρ2 s2) => whileL c body n ρ2 s2
    | some (.ct ρ2 s2) => whileL c body n ρ2 s2
    | some (.bk ρ2 s2) => some (.nx ρ2 s2)
    | r => r) else some (.nx ρ s1)
theorem ss_while {X : Cx} {W : WX} {c : Expr} {body : List Stmt} {pos : Pos} {tc : MT} {mb : MS} (n : Nat) (hp : PassesOwn (model X.prog X.w) X.A X.env X.xe) (hc : SdT X W c tc) (hb : SdB X W body mb) : SdS X W (.While c body [] pos) (whileL tc mb n) := by
  refine ps_imp (ps_while hp hc hb) fun E σ H ⟨ρ, st, Z, ι, e, r, p⟩ => ?_
  refine ⟨fun m σ H => ∃ ρ st Z ι, EnvR X.K Z ι ρ σ ∧ Rel X.K st H Z ι ∧ PostS X.K W Z ι H E (whileL tc mb m ρ st), ⟨n, ρ, st, Z, ι, e, r, p⟩, ?_⟩
  rintro m σ H ⟨ρ, st, Z, ι, e, r, p⟩
  cases m with
  | zero => exact p.elim
  | succ m =>
    unfold whileL at p
    refine rdG.mono (skont e r p) fun k H1 ⟨st1, Z1, ι1, x, g1, e1, r1, rx, p1⟩ => ?_
    cases (show k = x from rx)
    cases k with
    | false => exact iteF (PostS.nx_ (by simpa using p1) e1 r1)
    | true =>
      refine iteT ⟨fun σ' H' => ∃ ρ st Z ι, EnvR X.K Z ι ρ σ' ∧ Rel X.K st H' Z ι ∧ PostS X.K W Z ι H' E (whileL tc mb m ρ st), fun σ' H' h => ⟨m, Nat.lt_succ_self m, h⟩, ρ, st1, Z1, ι1, e1, r1, ?_⟩
      rw [if_pos rfl] at p1
      cases hb : mb ρ st1 with
      | none => rw [hb] at p1; exact p1.elim
      | some f =>
        rw [hb] at p1
        cases f with
        | nx ρ2 st2 => exact fun σ4 H4 Z4 ι4 g4 r4 e4 => ⟨ρ2, st2, Z4, ι4, e4, r4, (show PostS X.K W Z1 ι1 H1 E (whileL tc mb m ρ2 st2) from p1).grow g4⟩
        | ct ρ2 st2 => exact fun σ4 H4 Z4 ι4 g4 r4 e4 => ⟨ρ2, st2, Z4, ι4, e4, r4, (show PostS X.K W Z1 ι1 H1 E (whileL tc mb m ρ2 st2) from p1).grow g4⟩
        | bk ρ2 st2 => exact p1
        | rt d st2 => exact p1
        | ex x ρ2 st2 => exact p1
/-! ### defs -/
def fnM (n : Nat) (body : MS) : FM := fun ds s => if ds.length ≤ n then match body (ds.map some ++ List.replicate (n - ds.length) none) s with
    | some (.nx _ s) => some (.ok .non s)
    | some (.rt d s) => some (.ok d s)
    | some (.ex x _ s) => some (.ex x s)
    | _ => none
  else none
/-- what a def promises: n arguments -/
def spM (K : PySem.W.Frag) (n : Nat) (f : FM) : Sp := fun vs H Q E => vs.length = n ∧ ∃ ds st Z ι, RpL K Z ι vs ds ∧ Rel K st H Z ι ∧ Post K (fun c d _ H' => E c d H') [] Z ι H (Rp K) Q (f ds st)
theorem envR_start {K : PySem.W.Frag} {Z : Hp} {ι : List Addr} {vs : List V} {ds : List D} (k : Nat) (h : RpL K Z ι vs ds) : EnvR K Z ι (ds.map some ++ List.replicate k none) (vs.map some ++ List.replicate k none) := by
  refine ⟨by simp [h.length], fun i d hd => ?_⟩
  by_cases hi : i < ds.length
  · rw [List.getElem?_append_left (by simpa using hi), List.getElem?_map] at hd
    rw [List.getElem?_append_left (by simpa [h.length] using hi), List.getElem?_map]
    cases hq : ds[i]? with
    | none => rw [hq] at hd; cases hd
    | some d' =>
      rw [hq] at hd
      cases hd
      obtain ⟨v, h1, h2⟩ := h.get hq
      exact ⟨v, by rw [h1]; rfl, h2⟩
  · rw [List.getElem?_append_right (by simpa using hi)] at hd
    have hm := List.mem_of_getElem? hd
    rw [List.mem_replicate] at hm
    cases hm.2
/-! ### defs that are called while nothing is being shown (the model's guards are empty) -/
structure FnG (P : Program) (w : World) (K : PySem.W.Frag) (mg : Str → Option Value) (base : Heap) (k : Nat) (f : Addr) (fd : FuncData) (ps : List Str) (sp : Sp) : Prop where
  len : ∀ vs H Q E, sp vs H Q E → vs.length = ps.length
  run : ∀ (A : Around) (outer : List PySem.Env) (s : Shared) (H : Hp) (args : Args) (us : List Value) (vs : List V) (Q : VK) (E : XK), Room k A → A.guards = some [] → Env0 P w K mg base A outer s H → BindsTo s fd args (ps.zip us) → Vals vs us → sp vs H Q E →
    codeAny (model P w) A (.call (.ref f) args) (CR (L2.CX P w) outer P w H s Q E) s
section
variable {P : Program} {w : World} {K : PySem.W.Frag} {mg : Str → Option Value} {base : Heap} {x qual : Str} {params : Arguments} {body : List Stmt} {scope : Scope} {dvs : List V} {kws : List (Str × V)} {f : Addr} {fd : FuncData}
theorem FnG.mono {ps : List Str} {sp : Sp} {j k : Nat} (F : FnG P w K mg base j f fd ps sp) (h : j ≤ k) : FnG P w K mg base k f fd ps sp :=
  ⟨F.len, fun A outer s H args us vs Q E hr hG e0 hb r hs => F.run A outer s H args us vs Q E (hr.mono h) hG e0 hb r hs⟩
theorem fnG_of {N ps : List Str} {k : Nat} {sp : Sp} (F : FunD K x qual params body scope dvs kws f fd) (S : FnScope N ps scope) (len : ∀ vs H Q E, sp vs H Q E → vs.length = ps.length)
    (hbody : ∀ (cdv : Value) (A : Around) (outer : List PySem.Env) (s : Shared) (H : Hp) (vs : List V) (Q : VK) (E : XK), Room k (A.deeper (PyProof.Rows.envOfC qual scope s.heap.objs.size f cdv)) → A.guards = some [] → sp vs H Q E →
      ∃ t, PSs (cxOf (L2.CX P w) P w K mg base N qual scope f cdv A outer s H E) body t ∧ t { nx := fun _ H' => Q .non H', rt := Q } (L2.start N vs) H) : FnG P w K mg base (k + 1) f fd ps sp := by
  obtain ⟨oc, od, dV, kV, doc, pm, an, cdv, ct, osl, rfl, lk, hcd, _, _⟩ := F.ex
  refine ⟨len, fun A outer s H args us vs Q E hr hG e0 hb r hsp => ?_⟩
  have old : ∀ b o, base.get? b = some o → s.heap.get? b = some o := fun b o e => (e0.bs b o e).1
  have KX : K.In s.heap := e0.mod.kin.keeps old
  refine codeAny_call_function hr.depth (KX _ _ lk) rfl S.co S.gen rfl (PySem.W.codeRec_of KX hcd) (hb _ _ _ _ (wpAny_newFunctionEnv_cells S.kind (fun ⟨n, v⟩ hy => (S.par n (List.of_mem_zip hy).1).imp id fun q => ⟨q, PySem.W.cellsFrom_some _ _ _ (.inl q)⟩) fun env he s1 x => ?_))
  subst he
  obtain ⟨t, ht, hq⟩ := hbody cdv A outer s H vs Q E (hr.deeper _) hG hsp
  have I := inv_start (CX := L2.CX P w) (E := E) S hr.hd e0 (len _ _ _ _ hsp) r x
  refine ⟨(e0.mod.nolimit.keeps old).keeps x.toInCall.keep, codeAny_func (wpAny_mono (ht.run [] s1 _ H _ I hq) (fun fl s' hs => ?_) fun e s' hs => hs)⟩
  cases fl with
  | ret u => obtain ⟨v, σ', H', J, rv, q⟩ := hs; exact ⟨v, H', J.os, J.bare, J.base, J.hok, rv, q⟩
  | next => obtain ⟨σ', H', J, q⟩ := hs; exact ⟨.non, H', J.os, J.bare, J.base, J.hok, rfl, q⟩
  | brk => exact (let ⟨_, _, _, q⟩ := hs; q : False).elim
  | cont => exact (let ⟨_, _, _, q⟩ := hs; q : False).elim
/-- what a body's reading is asked in -/
structure Ctx (P : Program) (w : World) (K : PySem.W.Frag) (mg : Str → Option Value) (base : Heap) (N : List Str) (scope : Scope) (k : Nat) (X : Cx) (W : WX) : Prop where
  prog : X.prog = P
  w : X.w = w
  K : X.K = K
  mg : X.mg = mg
  base : X.base = base
  tk : Takes X W
  own : PassesOwn (model X.prog X.w) X.A X.env X.xe
  room : Room k X.A
  hG : X.A.guards = some []
/-- a def of the text is what its body's reading says -/
theorem fn_ok {N ps : List Str} {k : Nat} {m : MS} (F : FunD K x qual params body scope dvs kws f fd) (S : FnScope N ps scope) (hle : ps.length ≤ N.length)
    (hb : ∀ (cdv : Value) (A : Around) (outer : List PySem.Env) (s : Shared) (H : Hp) (E : XK), Ctx P w K mg base N scope k (cxOf (L2.CX P w) P w K mg base N qual scope f cdv A outer s H E) (fun c d _ H' => E c d H') →
      SdB (cxOf (L2.CX P w) P w K mg base N qual scope f cdv A outer s H E) (fun c d _ H' => E c d H') body m) :
    FnG P w K mg base (k + 1) f fd ps (spM K ps.length (fnM N.length m)) := by
  refine fnG_of F S (fun vs H Q E h => h.1) fun cdv A outer s H vs Q E hr hG h => ?_
  obtain ⟨hn, ds, st, Z, ι, hv, r, p⟩ := h
  refine ⟨rdS K (fun c d _ H' => E c d H') m, hb cdv A outer s H E ⟨rfl, rfl, rfl, rfl, rfl, takes_of rfl rfl rfl rfl, passes_of rfl, hr, hG⟩, ?_⟩
  have hl : ds.length ≤ N.length := by rw [← hv.length, hn]; exact hle
  unfold fnM at p
  rw [if_pos hl] at p
  refine ⟨ds.map some ++ List.replicate (N.length - ds.length) none, st, Z, ι, by unfold L2.start; rw [hv.length]; exact envR_start _ hv, r, ?_⟩
  cases hx : m (ds.map some ++ List.replicate (N.length - ds.length) none) st with
  | none => rw [hx] at p; exact p.elim
  | some q =>
    rw [hx] at p
    cases q with
    | nx ρ s1 => exact fun σ' H' Z' ι' g r e => p .non H' Z' ι' g r .non
    | rt d s1 => exact p
    | bk ρ s1 => exact p.elim
    | ct ρ s1 => exact p.elim
    | ex x ρ s1 => exact fun c d σ' H' Z' ι' g r e q => p c d H' Z' ι' g r q
end
/-! ### calls -/
def mCall (f : FM) (a : MA) : ME := fun ρ s => bnd (a ρ s) fun ds s => f ds s
section
variable {X : Cx} {W : WX} {e : Expr} {es : List Expr} {p pos : Pos} {ms : MA} {k n : Nat} {f : Addr} {fd : FuncData} {ps : List Str} {fm : FM} {x : Str} {sp : Sp} {ds : List Value} {dvs : List V}
theorem Post.toE {K : PySem.W.Frag} {σ : L2.St} {Z H : Hp} {ι : List Addr} {Q : VK} {y : RO D} (h : Post K W σ Z ι H (Rp K) Q y) : Post K (fun c d _ H' => WE W σ c d H') [] Z ι H (Rp K) Q y := by
  cases y with
  | none => exact h
  | some r => cases r with
    | ok a st => exact h
    | ex x st => exact h
theorem run_G {pins : List (Addr × Obj)} {σ : L2.St} {H : Hp} {s : Shared} {Q : VK} {us : List Value} {vs : List V} (F : FnG X.prog X.w X.K X.mg X.base k f fd ps sp) (hr : Room k X.A) (hG : X.A.guards = some []) (hb : Binds X.K fd ps ds) (hd : Vals dvs ds) (tk : Takes X W)
    (I : Inv X pins σ H s) (r : Vals vs us) (h : sp (vs ++ dvs) H Q (WE W σ)) : wpAny (model X.prog X.w) X.A (call (.ref f) us) (EP X pins σ Q) X.xe s := by
  have r2 := r.append hd
  have b := hb s us I.kIn (by rw [← r2.length, F.len _ _ _ _ h])
  refine wpAny_call (codeAny_mono (F.run X.A X.stack s H ⟨us, []⟩ (us ++ ds) _ Q (WE W σ) hr hG I.env0 b r2 h) fun r s' hq => ?_)
  match r, hq with
  | .error e, hq => exact passAt tk σ pins H s e s' I hq
  | .ok (.ret u), hq => exact I.after hq
theorem pe_callG (F : FnG X.prog X.w X.K X.mg X.base k f fd ps sp) (hr : Room k X.A) (hG : X.A.guards = some []) (hg : Gl X x) (hm : X.mg x = some (.ref f)) (hk : PySem.W.keepIn X.K (.ref f) = true) (hb : Binds X.K fd ps ds) (hd : Vals dvs ds) (tk : Takes X W) {t : TA}
    (ha : PA X (e :: es) t) (hdb : (x == ("__debug__" : Str)) = false) (he : starEach (e :: es) X.env = (false, eval e X.env) :: starEach es X.env) (hpl : (backTo pos (starEach es X.env)).any (·.1) = false) :
    PE X (.Call (.Name x p) (e :: es) [] pos) (fun σ H Q => t σ H fun vs H1 => sp (vs ++ dvs) H1 Q (WE W σ)) := ⟨fun pins s σ H Q I h =>
  PySem.wpAny_Call_Name_kw (ld_glob I hg hm (PySem.W.callWith_K (h₀ := X.base) I.ok.mod.kin hk (thn (ha.run pos pins s σ H _ I h) fun us s1 ⟨vs, H1, I1, r, q⟩ => ⟨I1.kIn, run_G F hr hG hb hd tk I1 r q⟩) he hpl) hdb)⟩
/-- a def's call; dfs: the defaults that fill up -/
theorem sd_callD {dfs : List D} (G : FnG X.prog X.w X.K X.mg X.base k f fd ps (spM X.K ps.length fm)) (hr : Room k X.A) (hG : X.A.guards = some []) (hm : X.mg x = some (.ref f)) (hk : PySem.W.keepIn X.K (.ref f) = true) (hb : Binds X.K fd ps ds) (hd : Vals dvs ds) (hdd : ∀ Z ι, RpL X.K Z ι dvs dfs) (tk : Takes X W) (ha : SdA X W (e :: es) ms)
    (hl : ∀ ρ s ds s', ms ρ s = some (.ok ds s') → ds.length + dfs.length = ps.length) (hg : Gl X x := by rfl) (hdb : (x == ("__debug__" : Str)) = false := by decide) (he : starEach (e :: es) X.env = (false, eval e X.env) :: starEach es X.env := by rfl) (hpl : (backTo pos (starEach es X.env)).any (·.1) = false := by rfl) :
    Sd X W (.Call (.Name x p) (e :: es) [] pos) (mCall (fun ds => fm (ds ++ dfs)) ms) := by
  refine pe_imp (pe_callG G hr hG hg hm hk hb hd tk ha hdb he hpl) fun σ H Q ⟨ρ, st, Z, ι, e, r, p⟩ => ?_
  refine ⟨ρ, st, Z, ι, e, r, ?_⟩
  unfold mCall at p
  cases hms : ms ρ st with
  | none => rw [hms] at p; exact p.elim
  | some q => cases q with
    | ok ds st1 =>
      rw [hms] at p
      intro vs H1 Z1 ι1 g1 r1 hv
      exact ⟨by rw [List.length_append, hv.length, (hdd Z1 ι1).length]; exact hl ρ st ds st1 hms, ds ++ dfs, st1, Z1, ι1, hv.append (hdd Z1 ι1), r1, ((show Post X.K W σ Z ι H (Rp X.K) Q (fm (ds ++ dfs) st1) from p).grow g1).toE⟩
    | ex x st1 => rw [hms] at p; exact p
theorem sd_call (G : FnG X.prog X.w X.K X.mg X.base k f fd ps (spM X.K ps.length fm)) (hr : Room k X.A) (hG : X.A.guards = some []) (hm : X.mg x = some (.ref f)) (hk : PySem.W.keepIn X.K (.ref f) = true) (hb : Binds X.K fd ps []) (tk : Takes X W) (ha : SdA X W (e :: es) ms)
    (hl : ∀ ρ s ds s', ms ρ s = some (.ok ds s') → ds.length = ps.length) (hg : Gl X x := by rfl) (hdb : (x == ("__debug__" : Str)) = false := by decide) (he : starEach (e :: es) X.env = (false, eval e X.env) :: starEach es X.env := by rfl) (hpl : (backTo pos (starEach es X.env)).any (·.1) = false := by rfl) :
    Sd X W (.Call (.Name x p) (e :: es) [] pos) (mCall fm ms) := by
  have h := sd_callD (dfs := []) (x := x) (p := p) (pos := pos) G hr hG hm hk hb .nil (fun _ _ => .nil) tk ha (fun ρ s ds s' q => by rw [hl ρ s ds s' q]; rfl) hg hdb he hpl
  have e : mCall (fun ds => fm (ds ++ [])) ms = mCall fm ms := by simp
  rw [e] at h
  exact h
end
theorem mNil_len : ∀ ρ s ds s', mNil ρ s = some (.ok ds s') → ds.length = 0 := fun ρ s ds s' h => by cases h; rfl
theorem mCons_len {a : ME} {r : MA} {n : Nat} (h : ∀ ρ s ds s', r ρ s = some (.ok ds s') → ds.length = n) : ∀ ρ s ds s', mCons a r ρ s = some (.ok ds s') → ds.length = n + 1 := fun ρ s ds s' e => by
  unfold mCons at e
  cases hx : a ρ s with
  | none => rw [hx] at e; cases e
  | some q => cases q with
    | ex x s1 => rw [hx] at e; cases e
    | ok d s1 =>
      rw [hx] at e
      dsimp only [bnd_ok] at e
      cases hy : r ρ s1 with
      | none => rw [hy] at e; cases e
      | some q => cases q with
        | ex x s2 => rw [hy] at e; cases e
        | ok ds2 s2 =>
          rw [hy] at e
          dsimp only [bnd_ok] at e
          cases e
          rw [List.length_cons, h _ _ _ _ hy]
end MP

set_option Elab.async false
set_option linter.all false
set_option maxRecDepth 100000
set_option maxHeartbeats 4000000
/-! MP5: list comprehensions -/
namespace MP
open PySem L2

def noX {α : Type} (x : RO α) : RO α := match x with
  | some (.ok a s) => some (.ok a s)
  | _ => none
@[simp] theorem noX_ok {α : Type} (a : α) (s : Sto) : noX (some (.ok a s)) = some (.ok a s) := rfl
@[simp] theorem noX_ex {α : Type} (x : Xc) (s : Sto) : noX (some (.ex x s) : RO α) = none := rfl
@[simp] theorem noX_none {α : Type} : noX (none : RO α) = none := rfl
theorem noX_inv {α : Type} {x : RO α} {a : α} {s : Sto} (h : noX x = some (.ok a s)) : x = some (.ok a s) := by
  unfold noX at h
  split at h
  · exact h
  · cases h
def wipeE (ρ : Env) : List Nat → Env
  | [] => ρ
  | v :: vs => (wipeE ρ vs).set v none
/-- the items of a comprehension -/
noncomputable def lcL (G : Sto → Prop) (g : MG) (c : MT) (elt : ME) (ρ : Env) : List D → Sto → RO (List D)
  | [], s => still G s (some (.ok [] s))
  | d :: ds, s => still G s (bnd (noX (g d ρ s)) fun ρ1 s => bnd (noX (c ρ1 s)) fun k s => if k = true then bnd (noX (elt ρ1 s)) fun y s => bnd (lcL G g c elt ρ ds s) fun ys s => some (.ok (y :: ys) s) else lcL G g c elt ρ ds s)
def mYes : MT := fun _ s => some (.ok true s)
noncomputable def lcM (mi : MI) (vs : List Nat) (g : MG) (c : MT) (elt : ME) : MA := fun ρ s => bnd (mi ρ s) fun src s => if src.1.length ≤ 16777216 then lcL src.2 g c elt (wipeE ρ vs) src.1 s else none
noncomputable def mLc (mi : MI) (vs : List Nat) (g : MG) (c : MT) (elt : ME) : ME := fun ρ s => bnd (lcM mi vs g c elt ρ s) fun ys s => some (.ok (.lst ys) s)
noncomputable def mLcB (mi : MI) (vs : List Nat) (g : MG) (c : MT) (elt : ME) : ME := fun ρ s => bnd (lcM mi vs g c elt ρ s) fun ys s => some (.ok (.ref s.length) (s ++ [.lst ys]))

theorem EnvR.wipe {K : PySem.W.Frag} {Z : Hp} {ι : List Addr} {ρ : Env} {σ : L2.St} (e : EnvR K Z ι ρ σ) : ∀ vs : List Nat, EnvR K Z ι (wipeE ρ vs) (L2.wipe σ vs)
  | [] => e
  | v :: vs => by
    have h := EnvR.wipe e vs
    refine ⟨by simp [wipeE, L2.wipe, h.len], fun i d hd => ?_⟩
    unfold wipeE at hd
    unfold L2.wipe
    rw [List.getElem?_set] at hd ⊢
    by_cases hv : v = i
    · subst hv
      rw [if_pos rfl] at hd
      split at hd <;> cases hd
    · rw [if_neg hv] at hd ⊢
      exact h.at_ i d hd
theorem wipe_set {x : Option V} : ∀ {vs : List Nat} {σ : L2.St} {i : Nat}, i ∈ vs → L2.wipe (σ.set i x) vs = L2.wipe σ vs
  | [], _, _, h => by cases h
  | v :: vs, σ, i, h => by
    unfold L2.wipe
    by_cases hv : i ∈ vs
    · rw [wipe_set hv]
    · have e : i = v := by
        rcases List.mem_cons.mp h with z | z
        · exact z
        · exact absurd z hv
      subst e
      have comm : ∀ (ws : List Nat) (τ : L2.St), i ∉ ws → L2.wipe (τ.set i x) ws = (L2.wipe τ ws).set i x := by
        intro ws
        induction ws with
        | nil => intro τ _; rfl
        | cons w ws ih =>
          intro τ hw
          unfold L2.wipe
          rw [ih τ (fun z => hw (List.mem_cons_of_mem _ z))]
          exact List.set_comm _ _ (fun z => hw (z ▸ List.mem_cons_self))
      rw [comm vs σ hv, List.set_set]
theorem wipe_wipe {σ : L2.St} : ∀ (vs ws : List Nat), (∀ v ∈ ws, v ∈ vs) → L2.wipe (L2.wipe σ ws) vs = L2.wipe σ vs
  | vs, [], _ => rfl
  | vs, w :: ws, h => by
    show L2.wipe ((L2.wipe σ ws).set w none) vs = _
    rw [wipe_set (h w List.mem_cons_self), wipe_wipe vs ws fun v hv => h v (List.mem_cons_of_mem _ hv)]
/-- a target of names within the slots vs -/
def GOk (K : PySem.W.Frag) (g : TG) (mg : MG) (vs : List Nat) : Prop := ∀ (d : D) (ρ ρ' : Env) (st st' : Sto) (v : V) (σ : L2.St) (H Z : Hp) (ι : List Addr) (Q : L2.St → Hp → Prop), mg d ρ st = some (.ok ρ' st') → Rel K st H Z ι → Rp K Z ι v d → EnvR K Z ι ρ σ →
  (∀ σ', st' = st → EnvR K Z ι ρ' σ' → L2.wipe σ' vs = L2.wipe σ vs → Q σ' H) → g v σ H Q
def GsOk (K : PySem.W.Frag) (g : TGs) (mg : MGs) (vs : List Nat) : Prop := ∀ (ds : List D) (ρ ρ' : Env) (st st' : Sto) (xs : List V) (σ : L2.St) (H Z : Hp) (ι : List Addr) (Q : L2.St → Hp → Prop), mg ds ρ st = some (.ok ρ' st') → Rel K st H Z ι → RpL K Z ι xs ds → EnvR K Z ι ρ σ →
  (∀ σ', st' = st → EnvR K Z ι ρ' σ' → L2.wipe σ' vs = L2.wipe σ vs → Q σ' H) → g xs σ H Q
theorem gok_name {K : PySem.W.Frag} {vs : List Nat} {i : Nat} (h : i ∈ vs) : GOk K (gName i) (gmName i) vs := fun d ρ ρ' st st' v σ H Z ι Q e r h' en k => by
  cases e
  exact k _ rfl (en.set i h') (wipe_set h)
theorem gok_nil {K : PySem.W.Frag} {vs : List Nat} : GsOk K gNil gmNil vs := fun ds ρ ρ' st st' xs σ H Z ι Q e r h en k => by
  cases h with
  | nil => cases e; exact ⟨rfl, k σ rfl en rfl⟩
  | cons _ _ => cases e
theorem gok_cons {K : PySem.W.Frag} {vs : List Nat} {g : TG} {mg : MG} {gs : TGs} {mgs : MGs} (h1 : GOk K g mg vs) (h2 : GsOk K gs mgs vs) (hn : ∀ d ρ st ρ' st', mg d ρ st = some (.ok ρ' st') → st' = st) : GsOk K (gCons g gs) (gmCons mg mgs) vs := fun ds ρ ρ' st st' xs σ H Z ι Q e r h en k => by
  cases h with
  | nil => cases e
  | @cons v vs' d ds h q =>
    have e' : bnd (mg d ρ st) (fun ρ s => mgs ds ρ s) = some (.ok ρ' st') := e
    cases hx : mg d ρ st with
    | none => rw [hx] at e'; cases e'
    | some z => cases z with
      | ex x s => rw [hx] at e'; cases e'
      | ok ρ1 st1 =>
        rw [hx] at e'
        have hs := hn _ _ _ _ _ hx
        subst hs
        refine ⟨v, vs', rfl, h1 d ρ ρ1 st1 st1 v σ H Z ι _ hx r h en fun σ1 _ en1 w1 => ?_⟩
        exact h2 ds ρ1 ρ' st1 st' vs' σ1 H Z ι Q e' r q en1 fun σ2 hs2 en2 w2 => k σ2 hs2 en2 (w2.trans w1)
theorem gok_tup {K : PySem.W.Frag} {vs : List Nat} {n : Nat} {gs : TGs} {mgs : MGs} (h2 : GsOk K gs mgs vs) (hl : ∀ ds ρ s r, mgs ds ρ s = some r → ds.length = n) : GOk K (gTup K n gs) (gmTup mgs) vs := fun d ρ ρ' st st' v σ H Z ι Q e r h en k => by
  cases h with
  | @tup a xs ds hq hr =>
    have e' : mgs ds ρ st = some (.ok ρ' st') := e
    exact ⟨a, xs, rfl, same_sqt r.zin hq, by rw [hr.length]; exact hl _ _ _ _ e', h2 ds ρ ρ' st st' xs σ H Z ι Q e' r hr en k⟩
  | _ => cases e
/-- something that is neither a box nor immutable changes -/
theorem Rel.other {K : PySem.W.Frag} {st : Sto} {H Z : Hp} {ι : List Addr} (r : Rel K st H Z ι) {p : Addr} {o : HO} (hz : Z p = none) (hi : p ∉ ι) : Rel K st (upd H p o) Z ι := by
  refine ⟨fun b u e => ?_, r.len, r.nd, fun n ob a h1 h2 => ?_⟩
  · rw [upd_ne (ne_of_none e hz)]; exact r.zin _ _ e
  · have hne : a ≠ p := fun z => hi (z ▸ List.mem_of_getElem? h2)
    exact (r.ob n ob a h1 h2).keep (Ext.refl _ _) (fun z => z) fun u q => by rw [upd_ne hne]; exact q
/-- a list that stands in H, known to us alone, becomes immutable -/
theorem Rel.adoptZ {K : PySem.W.Frag} {st : Sto} {H Z : Hp} {ι : List Addr} (r : Rel K st H Z ι) {p : Addr} {o : HO} (hH : H p = some o) (hz : Z p = none) (hi : p ∉ ι) : Rel K st H (upd Z p o) ι ∧ Ext Z ι (upd Z p o) ι := by
  have g : Ext Z ι (upd Z p o) ι := ⟨same_upd hz, [], (List.append_nil ι).symm⟩
  refine ⟨⟨fun b u e => ?_, r.len, r.nd, fun n ob a h1 h2 => ?_⟩, g⟩
  · by_cases hb : b = p
    · subst hb; rw [upd_same] at e; rw [← e]; exact hH
    · rw [upd_ne hb] at e; exact r.zin _ _ e
  · have hne : a ≠ p := fun z => hi (z ▸ List.mem_of_getElem? h2)
    exact (r.ob n ob a h1 h2).keep g (fun z => by rw [upd_ne hne]; exact z) fun u q => q
/-- .. becomes a box -/
theorem Rel.adoptB {K : PySem.W.Frag} {st : Sto} {H Z : Hp} {ι : List Addr} (r : Rel K st H Z ι) {p : Addr} {xs : List V} {ds : List D} (hH : H p = some (.lst xs)) (hz : Z p = none) (hi : p ∉ ι) (h : RpL K Z ι xs ds) : Rel K (st ++ [.lst ds]) H Z (ι ++ [p]) ∧ Ext Z ι Z (ι ++ [p]) := by
  have g : Ext Z ι Z (ι ++ [p]) := ⟨Same.refl Z, [p], rfl⟩
  refine ⟨⟨r.zin, by simp [r.len], ?_, fun n u a h1 h2 => ?_⟩, g⟩
  · rw [List.nodup_append]
    refine ⟨r.nd, by simp, fun a ha b hb => ?_⟩
    have e : b = p := by simpa using hb
    subst e
    exact fun z => hi (z ▸ ha)
  · by_cases hn : n < st.length
    · rw [List.getElem?_append_left hn] at h1
      rw [List.getElem?_append_left (by rw [r.len]; exact hn)] at h2
      exact (r.ob n u a h1 h2).keep g (fun z => z) fun w q => q
    · have hn' : n = st.length := by
        have := (List.getElem?_eq_some_iff.mp h1).1
        simp at this
        omega
      subst hn'
      rw [List.getElem?_append_right (Nat.le_refl _)] at h1
      rw [List.getElem?_append_right (by rw [r.len]; exact Nat.le_refl _)] at h2
      simp [r.len] at h1 h2
      subst h1 h2
      exact ⟨hz, xs, hH, h.mono g⟩
abbrev W0 : WX := fun _ _ _ _ => False
theorem Post.ok0 {α β : Type} {K : PySem.W.Frag} {W : WX} {σ : L2.St} {Z H : Hp} {ι : List Addr} {rep : Hp → List Addr → β → α → Prop} {Q : β → Hp → Prop} {x : RO α} {a : α} {st : Sto} (e : x = some (.ok a st)) (k : ∀ b H' Z' ι', Grow Z ι H Z' ι' H' → Rel K st H' Z' ι' → rep Z' ι' b a → Q b H') : Post K W σ Z ι H rep Q x := by
  rw [e]; exact k
/-- the heart of a comprehension -/
theorem lc_post {K : PySem.W.Frag} {tg : TG} {g : MG} {c : MT} {elt : ME} {J : It} {Z0 : Hp} {ι0 : List Addr} {all : List D} {G : Sto → Prop} {vs : List Nat} {σ : L2.St} {ρ : Env} {st0 : Sto} {H1 : Hp} {tot : List D} {stE : Sto} {R : Hp → Prop} {L : Addr} (hw : WalkM K Z0 ι0 J (all, G)) (hlen : all.length ≤ 16777216) (hg : GOk K tg g vs) (e0 : EnvR K Z0 ι0 ρ σ) (r0 : Rel K st0 H1 Z0 ι0) (hL : H1 L = none)
    (hx : lcL G g c elt (wipeE ρ vs) all st0 = some (.ok tot stE)) (hR : ∀ H Z ι xs, Grow Z0 ι0 H1 Z ι H → Rel K stE H Z ι → Z L = none → L ∉ ι → H L = some (.lst xs) → RpL K Z ι xs tot → R H) :
    ∃ Wt : Nat → Nat → Hp → Prop, (∃ m, Wt 0 m (upd H1 L (.lst []))) ∧ ∀ i m H, Wt i m H →
      (J.stop i H ∧ R H) ∨ (J.go i H ∧ ∃ Nx : Hp → Prop, (∀ H', Nx H' → ∃ m', m' < m ∧ Wt (i + 1) m' H') ∧ ∀ x H', J.yld i H x H' → tg x (L2.wipe σ vs) H' fun σ2 H2 => L2.wipe σ2 vs = L2.wipe σ vs ∧ rdT K W0 c σ2 H2 fun b H3 =>
        if b = true then rd K W0 elt σ2 H3 fun y H4 => ∃ acc, H4 L = some (.lst acc) ∧ acc.length < sizeLine ∧ Nx (upd H4 L (.lst (acc ++ [y]))) else Nx H3) := by
  obtain ⟨hLz, hLi⟩ := r0.fresh hL
  let Pv : Nat → Hp → Prop := fun i H => ∃ st Z ι acc ys rest, Grow Z0 ι0 H1 Z ι H ∧ Rel K st H Z ι ∧ Z L = none ∧ L ∉ ι ∧ H L = some (.lst acc) ∧ RpL K Z ι acc ys ∧ acc.length ≤ i ∧ lcL G g c elt (wipeE ρ vs) (all.drop i) st = some (.ok rest stE) ∧ ys ++ rest = tot
  refine ⟨fun i m H => m = all.length - i ∧ i ≤ all.length ∧ Pv i H, ⟨all.length, rfl, Nat.zero_le _, ?_⟩, ?_⟩
  · obtain ⟨r1, g1⟩ := r0.junk (o := .lst []) hL
    exact ⟨st0, Z0, ι0, [], [], tot, g1, r1, hLz, hLi, upd_same, .nil, Nat.le_refl _, by simpa using hx, rfl⟩
  rintro i m H ⟨rfl, hi, st, Z, ι, acc, ys, rest, gr, r, zL, iL, hH, hr, hac, hx, hsum⟩
  by_cases hlt : i < all.length
  · have hd : all[i]? = some all[i] := List.getElem?_eq_getElem hlt
    have hdrop : all.drop i = all[i] :: all.drop (i + 1) := List.drop_eq_getElem_cons hlt
    rw [hdrop] at hx
    have hx2 := still_inv hx
    clear hx
    obtain ⟨hG, hx⟩ := hx2
    obtain ⟨go, yl⟩ := (hw i st H Z ι gr.toExt r hG).1 _ hd
    refine .inr ⟨go, fun H' => i + 1 ≤ all.length ∧ Pv (i + 1) H', fun H' h => ⟨all.length - (i + 1), by omega, rfl, h.1, h.2⟩, fun x H' y => ?_⟩
    obtain ⟨Z2, g2, r2, rx⟩ := yl x H' y
    cases h1 : noX (g all[i] (wipeE ρ vs) st) with
    | none => rw [h1] at hx; cases hx
    | some q1 => cases q1 with
      | ex x s => rw [h1] at hx; cases hx
      | ok ρ1 st1 =>
        rw [h1] at hx
        dsimp only [bnd_ok] at hx
        have e2 : EnvR K Z2 ι (wipeE ρ vs) (L2.wipe σ vs) := ((e0.mono gr.toExt).mono g2.toExt).wipe vs
        refine hg all[i] (wipeE ρ vs) ρ1 st st1 x (L2.wipe σ vs) H' Z2 ι _ (noX_inv h1) r2 rx e2 fun σ2 hst e3 wq => ?_
        subst hst
        refine ⟨by rw [wq, wipe_wipe vs vs fun v hv => hv], ρ1, st1, Z2, ι, e3, r2, ?_⟩
        -- L stands on
        have kL2 : H' L = some (.lst acc) := g2.keep L _ iL hH
        have zL2 : Z2 L = none := by
          cases e : Z2 L with
          | none => rfl
          | some o => rcases g2.zn L o e with q | q | q
                      · rw [zL] at q; cases q
                      · rw [hH] at q; cases q
                      · exact absurd q iL
        have step : ∀ {Za Zb Ha Hb : Hp} {ιa ιb : List Addr}, Grow Za ιa Ha Zb ιb Hb → Za L = none → L ∉ ιa → Ha L = some (.lst acc) → Zb L = none ∧ L ∉ ιb ∧ Hb L = some (.lst acc) := fun {Za Zb Ha Hb ιa ιb} g z i h => by
          refine ⟨?_, fun q => ?_, g.keep L _ i h⟩
          · cases e : Zb L with
            | none => rfl
            | some o => rcases g.zn L o e with q | q | q
                        · rw [z] at q; cases q
                        · rw [h] at q; cases q
                        · exact absurd q i
          · rcases g.new L q with q | q
            · exact i q
            · rw [h] at q; cases q
        cases h2 : noX (c ρ1 st1) with
        | none => rw [h2] at hx; cases hx
        | some q2 => cases q2 with
          | ex x s => rw [h2] at hx; cases hx
          | ok k st2 =>
            rw [h2] at hx
            dsimp only [bnd_ok] at hx
            refine Post.ok0 (noX_inv h2) fun b H3 Z3 ι3 g3 r3 hb => ?_
            cases (show b = k from hb)
            obtain ⟨zL3, iL3, kL3⟩ := step g3 zL2 iL kL2
            have gA := (gr.trans g2).trans g3
            cases k with
            | false =>
              rw [if_neg Bool.false_ne_true] at hx
              refine iteF ⟨hlt, st2, Z3, ι3, acc, ys, rest, gA, r3, zL3, iL3, kL3, hr.mono (g2.toExt.trans g3.toExt), by omega, hx, hsum⟩
            | true =>
              rw [if_pos rfl] at hx
              refine iteT ?_
              cases h3 : noX (elt ρ1 st2) with
              | none => rw [h3] at hx; cases hx
              | some q3 => cases q3 with
                | ex x s => rw [h3] at hx; cases hx
                | ok y' st3 =>
                  rw [h3] at hx
                  dsimp only [bnd_ok] at hx
                  cases h4 : lcL G g c elt (wipeE ρ vs) (all.drop (i + 1)) st3 with
                  | none => rw [h4] at hx; cases hx
                  | some q4 => cases q4 with
                    | ex x s => rw [h4] at hx; cases hx
                    | ok ys' st4 =>
                      rw [h4] at hx
                      dsimp only [bnd_ok] at hx
                      cases hx
                      refine ⟨ρ1, st2, Z3, ι3, e3.mono g3.toExt, r3, Post.ok0 (noX_inv h3) fun v H4 Z4 ι4 g4 r4 hv => ?_⟩
                      obtain ⟨zL4, iL4, kL4⟩ := step g4 zL3 iL3 kL3
                      refine ⟨acc, kL4, by rw [← sline]; omega, hlt, st3, Z4, ι4, acc ++ [v], ys ++ [y'], ys', ?_, r4.other zL4 iL4, zL4, iL4, upd_same, (hr.mono ((g2.toExt.trans g3.toExt).trans g4.toExt)).append (.one hv), by simp; omega, h4, by rw [List.append_assoc]; exact hsum⟩
                      have gB := gA.trans g4
                      exact ⟨gB.toExt, fun b o hb e => by rw [upd_ne (ne_of_none e hL)]; exact gB.keep b o hb e, gB.new, gB.zn⟩
  · have he : i = all.length := by omega
    subst he
    rw [List.drop_length] at hx
    obtain ⟨hG, hx⟩ := still_inv hx
    cases hx
    refine .inl ⟨(hw _ _ H Z ι gr.toExt r hG).2 rfl, hR H Z ι acc gr r zL iL hH ?_⟩
    rw [List.append_nil] at hsum
    rw [← hsum]
    exact hr
theorem lcL_noex {G : Sto → Prop} {g : MG} {c : MT} {me : ME} {ρ : Env} {x : Xc} {s : Sto} : ∀ (ds : List D) (st : Sto), lcL G g c me ρ ds st ≠ some (.ex x s)
  | [], st => fun h => by cases (still_inv h).2
  | d :: ds, st => fun h => by
    have h := (still_inv h).2
    cases h1 : noX (g d ρ st) with
    | none => rw [h1] at h; cases h
    | some q1 => cases q1 with
      | ex x s => have := h1; unfold noX at this; split at this <;> cases this
      | ok ρ1 st1 =>
        rw [h1] at h
        dsimp only [bnd_ok] at h
        cases h2 : noX (c ρ1 st1) with
        | none => rw [h2] at h; cases h
        | some q2 => cases q2 with
          | ex x s => have := h2; unfold noX at this; split at this <;> cases this
          | ok k st2 =>
            rw [h2] at h
            dsimp only [bnd_ok] at h
            split at h
            · cases h3 : noX (me ρ1 st2) with
              | none => rw [h3] at h; cases h
              | some q3 => cases q3 with
                | ex x s => have := h3; unfold noX at this; split at this <;> cases this
                | ok y st3 =>
                  rw [h3] at h
                  dsimp only [bnd_ok] at h
                  cases h4 : lcL G g c me ρ ds st3 with
                  | none => rw [h4] at h; cases h
                  | some q4 => cases q4 with
                    | ex x s => exact lcL_noex ds st3 h4
                    | ok ys st4 => rw [h4] at h; cases h
            · exact lcL_noex ds st2 h
section
variable {X : Cx} {W : WX} {elt tg iter : Expr} {ifs : List Expr} {scope : Scope} {own : List (Str × Nat)} {pos : Pos} {mi : MI} {g : MG} {gt : TG} {c : MT} {me : ME}
theorem lc_read {K : PySem.W.Frag} {σ : L2.St} {H : Hp} {Q : VK} {vs : List Nat} (hg : GOk K gt g vs) (h : rd K W (mLc mi vs g c me) σ H Q) : tLc (rdI K W mi) gt (rdT K W0 c) (rd K W0 me) vs σ H Q := by
  obtain ⟨ρ, st, Z, ι, e, r, p⟩ := h
  unfold mLc lcM at p
  have p' : Post K W σ Z ι H (Rp K) Q (bnd (mi ρ st) fun src s => bnd (if src.1.length ≤ 16777216 then lcL src.2 g c me (wipeE ρ vs) src.1 s else none) fun ys s => some (.ok (.lst ys) s)) := by
    cases hx : mi ρ st with
    | none => rw [hx] at p; exact p
    | some q => rw [hx] at p; cases q <;> exact p
  refine rdG.mono (kont e r p') fun J H1 ⟨st1, Z1, ι1, ⟨ds, G⟩, g1, e1, r1, hw, p1⟩ L hL => ?_
  by_cases hlen : ds.length ≤ 16777216
  · rw [if_pos hlen] at p1
    cases hx : lcL G g c me (wipeE ρ vs) ds st1 with
    | none => rw [hx] at p1; exact p1.elim
    | some q => cases q with
      | ex x s => exact absurd hx (lcL_noex _ _)
      | ok tot stE =>
        rw [hx] at p1
        refine lc_post hw hlen hg e1 r1 hL hx fun H' Z' ι' xs gr r' zL iL hH hr => ?_
        obtain ⟨r2, g2⟩ := r'.adoptZ hH zL iL
        refine p1 (.ref L) H' _ ι' ⟨gr.toExt.trans g2, gr.keep, gr.new, fun b o eb => ?_⟩ r2 (.lst upd_same (hr.mono g2))
        by_cases hb : b = L
        · rw [hb]; exact .inr (.inl hL)
        · rw [upd_ne hb] at eb; exact gr.zn b o eb
  · rw [if_neg hlen] at p1; exact p1.elim
theorem lc_readB {K : PySem.W.Frag} {σ : L2.St} {H : Hp} {Q : VK} {vs : List Nat} (hg : GOk K gt g vs) (h : rd K W (mLcB mi vs g c me) σ H Q) : tLc (rdI K W mi) gt (rdT K W0 c) (rd K W0 me) vs σ H Q := by
  obtain ⟨ρ, st, Z, ι, e, r, p⟩ := h
  unfold mLcB lcM at p
  have p' : Post K W σ Z ι H (Rp K) Q (bnd (mi ρ st) fun src s => bnd (if src.1.length ≤ 16777216 then lcL src.2 g c me (wipeE ρ vs) src.1 s else none) fun ys s => some (.ok (.ref s.length) (s ++ [.lst ys]))) := by
    cases hx : mi ρ st with
    | none => rw [hx] at p; exact p
    | some q => rw [hx] at p; cases q <;> exact p
  refine rdG.mono (kont e r p') fun J H1 ⟨st1, Z1, ι1, ⟨ds, G⟩, g1, e1, r1, hw, p1⟩ L hL => ?_
  by_cases hlen : ds.length ≤ 16777216
  · rw [if_pos hlen] at p1
    cases hx : lcL G g c me (wipeE ρ vs) ds st1 with
    | none => rw [hx] at p1; exact p1.elim
    | some q => cases q with
      | ex x s => exact absurd hx (lcL_noex _ _)
      | ok tot stE =>
        rw [hx] at p1
        refine lc_post hw hlen hg e1 r1 hL hx fun H' Z' ι' xs gr r' zL iL hH hr => ?_
        obtain ⟨r2, g2⟩ := r'.adoptB hH zL iL hr
        refine p1 (.ref L) H' _ (ι' ++ [L]) ⟨gr.toExt.trans g2, gr.keep, fun b hb => ?_, gr.zn⟩ r2 (.ref (by rw [← r'.len]; simp))
        rcases List.mem_append.mp hb with q | q
        · exact gr.new b q
        · have eb : b = L := by simpa using q
          rw [eb]; exact .inr hL
  · rw [if_neg hlen] at p1; exact p1.elim
theorem sts_nil {Y : Cx} {V : WX} : PTs Y [] (rdT Y.K V mYes) := ⟨fun pins s σ H Q I ⟨ρ, st, Z, ι, e, r, p⟩ => (pts_nil (X := Y)).run pins s σ H Q I (p true H Z ι (Grow.refl _ _ _) r rfl)⟩
theorem sts_one {Y : Cx} {V : WX} {t : Expr} {mt : MT} (h : SdT Y V t mt) : PTs Y [t] (rdT Y.K V mt) := pts_one h
/-- [elt for tg in iter if ..] -/
theorem sd_lc (hN : X.N.Nodup) (hi : SdI X W tg iter mi) (ok : BlkOk X.N X.env.scope scope own)
    (hg : ∀ (s : Shared) (H : Hp) (C : Addr) (cl : List (Str × Addr)) (fp : List Addr), PG (X.blk s H scope (compEnvC scope cl C X.env) fp) tg gt) (hgo : GOk X.K gt g (own.map (·.2)))
    (ht : ∀ (s : Shared) (H : Hp) (C : Addr) (cl : List (Str × Addr)) (fp : List Addr), PTs (X.blk s H scope (compEnvC scope cl C X.env) fp) ifs (rdT X.K W0 c))
    (he : ∀ (s : Shared) (H : Hp) (C : Addr) (cl : List (Str × Addr)) (fp : List Addr), Sd (X.blk s H scope (compEnvC scope cl C X.env) fp) W0 elt me) (hc : X.calm = true := by rfl) (hs : ∀ x, foldedSetIterable iter X.env x = pure x := by intro _; rfl) :
    Sd X W (.ListComp elt [⟨tg, iter, ifs, 0⟩] scope pos) (mLc mi (own.map (·.2)) g c me) := pe_imp (pe_lc hc hN hi ok hg ht he hs) fun _ _ _ h => lc_read hgo h
theorem sd_lcB (hN : X.N.Nodup) (hi : SdI X W tg iter mi) (ok : BlkOk X.N X.env.scope scope own)
    (hg : ∀ (s : Shared) (H : Hp) (C : Addr) (cl : List (Str × Addr)) (fp : List Addr), PG (X.blk s H scope (compEnvC scope cl C X.env) fp) tg gt) (hgo : GOk X.K gt g (own.map (·.2)))
    (ht : ∀ (s : Shared) (H : Hp) (C : Addr) (cl : List (Str × Addr)) (fp : List Addr), PTs (X.blk s H scope (compEnvC scope cl C X.env) fp) ifs (rdT X.K W0 c))
    (he : ∀ (s : Shared) (H : Hp) (C : Addr) (cl : List (Str × Addr)) (fp : List Addr), Sd (X.blk s H scope (compEnvC scope cl C X.env) fp) W0 elt me) (hc : X.calm = true := by rfl) (hs : ∀ x, foldedSetIterable iter X.env x = pure x := by intro _; rfl) :
    Sd X W (.ListComp elt [⟨tg, iter, ifs, 0⟩] scope pos) (mLcB mi (own.map (·.2)) g c me) := pe_imp (pe_lc hc hN hi ok hg ht he hs) fun _ _ _ h => lc_readB hgo h
theorem asg_name {K : PySem.W.Frag} {E : Ends} {σ : L2.St} {H : Hp} {i : Nat} {m : ME} {t : TE} (hm : ∀ Q, rd K W m σ H Q → t σ H Q) (h : rdS K W (mSet i m) E σ H) : tAsg t (gName i) E σ H := by
  obtain ⟨ρ, st, Z, ι, e, r, p⟩ := h
  refine hm _ (rdG.mono (skont e r p) fun v H1 ⟨st1, Z1, ι1, x, g1, e1, r1, rx, p1⟩ => PostS.nx_ p1 (e1.set i rx) r1)
/-- y = [..] on one line -/
theorem ss_setLc {i : Nat} {y : Str} {py spos : Pos} (hN : X.N.Nodup) (hi : SdI X W tg iter mi) (ok : BlkOk X.N X.env.scope scope own)
    (hg : ∀ (s : Shared) (H : Hp) (C : Addr) (cl : List (Str × Addr)) (fp : List Addr), PG (X.blk s H scope (compEnvC scope cl C X.env) fp) tg gt) (hgo : GOk X.K gt g (own.map (·.2)))
    (ht : ∀ (s : Shared) (H : Hp) (C : Addr) (cl : List (Str × Addr)) (fp : List Addr), PTs (X.blk s H scope (compEnvC scope cl C X.env) fp) ifs (rdT X.K W0 c))
    (he : ∀ (s : Shared) (H : Hp) (C : Addr) (cl : List (Str × Addr)) (fp : List Addr), Sd (X.blk s H scope (compEnvC scope cl C X.env) fp) W0 elt me)
    (hsw : swapsWith (.ListComp elt [⟨tg, iter, ifs, 0⟩] scope pos) (some (.Name y py)) spos.line X.env = pure true) (hc : X.calm = true := by rfl) (hy : X.N[i]? = some y := by rfl) (hyl : X.env.scope.names.lookup y = some .local := by rfl) (hs : ∀ x, foldedSetIterable iter X.env x = pure x := by intro _; rfl) :
    SdS X W (.Assign [.Name y py] (.ListComp elt [⟨tg, iter, ifs, 0⟩] scope pos) spos) (mSet i (mLc mi (own.map (·.2)) g c me)) := ps_imp (ps_setLc hc hN hy hyl hsw hi ok hg ht he hs) fun _ _ _ h => asg_name (fun _ q => lc_read hgo q) h
theorem ss_setLcB {i : Nat} {y : Str} {py spos : Pos} (hN : X.N.Nodup) (hi : SdI X W tg iter mi) (ok : BlkOk X.N X.env.scope scope own)
    (hg : ∀ (s : Shared) (H : Hp) (C : Addr) (cl : List (Str × Addr)) (fp : List Addr), PG (X.blk s H scope (compEnvC scope cl C X.env) fp) tg gt) (hgo : GOk X.K gt g (own.map (·.2)))
    (ht : ∀ (s : Shared) (H : Hp) (C : Addr) (cl : List (Str × Addr)) (fp : List Addr), PTs (X.blk s H scope (compEnvC scope cl C X.env) fp) ifs (rdT X.K W0 c))
    (he : ∀ (s : Shared) (H : Hp) (C : Addr) (cl : List (Str × Addr)) (fp : List Addr), Sd (X.blk s H scope (compEnvC scope cl C X.env) fp) W0 elt me)
    (hsw : swapsWith (.ListComp elt [⟨tg, iter, ifs, 0⟩] scope pos) (some (.Name y py)) spos.line X.env = pure true) (hc : X.calm = true := by rfl) (hy : X.N[i]? = some y := by rfl) (hyl : X.env.scope.names.lookup y = some .local := by rfl) (hs : ∀ x, foldedSetIterable iter X.env x = pure x := by intro _; rfl) :
    SdS X W (.Assign [.Name y py] (.ListComp elt [⟨tg, iter, ifs, 0⟩] scope pos) spos) (mSet i (mLcB mi (own.map (·.2)) g c me)) := ps_imp (ps_setLc hc hN hy hyl hsw hi ok hg ht he hs) fun _ _ _ h => asg_name (fun _ q => lc_readB hgo q) h
end
end MP

set_option Elab.async false
set_option linter.all false
set_option maxRecDepth 100000
set_option maxHeartbeats 4000000
/-! MP6: what is walked: lists, tuples, texts, ranges, zip and enumerate of any of them -/
namespace MP
open PySem L2

def signs (z : Str) : List D := z.cps.toList.map fun c => .str ⟨#[c]⟩
abbrev Src := List D × (Sto → Prop)
/-- what is walked: its items; a box must stand as it stood -/
def seqOf (s : Sto) : D → Option Src
  | .lst l => some (l, any_)
  | .tup l => some (l, any_)
  | .str z => some (signs z, any_)
  | .ref n => match s[n]? with
    | some (.lst l) => some (l, fun s => s[n]? = some (.lst l))
    | _ => none
  | _ => none
def miSeq (a : ME) : MI := fun ρ s => bnd (a ρ s) fun d s => ofO (seqOf s d) s
/-! ### walks of immutable things -/
section
variable {K : PySem.W.Frag} {Z : Hp} {ι : List Addr}
theorem walk_lst {a : Addr} {xs : List V} {ds : List D} (h : Z a = some (.lst xs)) (q : RpL K Z ι xs ds) : WalkM K Z ι (Itl K a) (ds, any_) := fun i st H Z1 ι1 g r _ => by
  have hH : SqL K H a xs := SqL.of (r.zin _ _ (g.z _ _ h))
  refine ⟨fun d hd => ?_, fun hi => ⟨xs, hH, by rw [q.length, hi]; exact Nat.le_refl _⟩⟩
  obtain ⟨v, hv, rv⟩ := q.get hd
  refine ⟨⟨xs, v, hH, hv⟩, fun x H' y => ?_⟩
  obtain ⟨rfl, y2⟩ := y
  have e := y2 xs hH
  rw [hv] at e
  cases e
  exact ⟨Z1, Grow.refl _ _ _, r, rv.mono g⟩
theorem walk_box {n : Nat} {a : Addr} {ds : List D} (h : ι[n]? = some a) : WalkM K Z ι (Itl K a) (ds, fun s => s[n]? = some (.lst ds)) := fun i st H Z1 ι1 g r hs => by
  obtain ⟨hz, xs, hH, q⟩ := r.ob n _ a hs (g.get h)
  refine ⟨fun d hd => ?_, fun hi => ⟨xs, SqL.of hH, by rw [q.length, hi]; exact Nat.le_refl _⟩⟩
  obtain ⟨v, hv, rv⟩ := q.get hd
  refine ⟨⟨xs, v, SqL.of hH, hv⟩, fun x H' y => ?_⟩
  obtain ⟨rfl, y2⟩ := y
  have e := y2 xs (SqL.of hH)
  rw [hv] at e
  cases e
  exact ⟨Z1, Grow.refl _ _ _, r, rv⟩
theorem walk_tupM {a : Addr} {xs : List V} {ds : List D} (h : SqT K Z a xs) (q : RpL K Z ι xs ds) : WalkM K Z ι (Itt K a) (ds, any_) := fun i st H Z1 ι1 g r _ => by
  have hH : SqT K H a xs := same_sqt r.zin (same_sqt g.z h)
  refine ⟨fun d hd => ?_, fun hi => ⟨xs, hH, by rw [q.length, hi]; exact Nat.le_refl _⟩⟩
  obtain ⟨v, hv, rv⟩ := q.get hd
  refine ⟨⟨xs, v, hH, hv⟩, fun x H' y => ?_⟩
  obtain ⟨rfl, y2⟩ := y
  have e := y2 xs hH
  rw [hv] at e
  cases e
  exact ⟨Z1, Grow.refl _ _ _, r, rv.mono g⟩
theorem signs_get {z : Str} {i : Nat} {d : D} (h : (signs z)[i]? = some d) : ∃ c, z.cps[i]? = some c ∧ d = .str ⟨#[c]⟩ := by
  unfold signs at h
  rw [List.getElem?_map, Array.getElem?_toList] at h
  cases e : z.cps[i]? with
  | none => rw [e] at h; cases h
  | some c => rw [e] at h; cases h; exact ⟨c, rfl, rfl⟩
theorem signs_len (z : Str) : (signs z).length = z.cps.size := by simp [signs]
theorem walk_txt {z : Str} : WalkM K Z ι (Its z) (signs z, any_) := fun i st H Z1 ι1 g r _ => by
  refine ⟨fun d hd => ?_, fun hi => by rw [show (signs z, any_).1.length = (signs z).length from rfl, signs_len] at hi; exact Nat.le_of_eq hi.symm⟩
  obtain ⟨c, hc, rfl⟩ := signs_get hd
  have hlt : i < z.cps.size := (Array.getElem?_eq_some_iff.mp hc).1
  refine ⟨hlt, fun x H' y => ?_⟩
  obtain ⟨rfl, c', hc', rfl⟩ := y
  rw [hc] at hc'
  cases hc'
  exact ⟨Z1, Grow.refl _ _ _, r, .str _⟩
def upto (n : Nat) : List D := (List.range n).map fun i => .int ((i : Nat) : Int)
theorem upto_len (n : Nat) : (upto n).length = n := by simp [upto]
theorem upto_get {n i : Nat} {d : D} (h : (upto n)[i]? = some d) : i < n ∧ d = .int (i : Int) := by
  unfold upto at h
  rw [List.getElem?_map] at h
  cases e : (List.range n)[i]? with
  | none => rw [e] at h; cases h
  | some j =>
    rw [e] at h
    cases h
    obtain ⟨h1, h2⟩ := List.getElem?_eq_some_iff.mp e
    simp at h1 h2
    subst h2
    exact ⟨h1, rfl⟩
theorem walk_rng {n : Nat} : WalkM K Z ι (Itr 0 n) (upto n, any_) := fun i st H Z1 ι1 g r _ => by
  refine ⟨fun d hd => ?_, fun hi => by rw [show (upto n, any_).1.length = (upto n).length from rfl, upto_len] at hi; exact Nat.le_of_eq hi.symm⟩
  obtain ⟨hi, rfl⟩ := upto_get hd
  refine ⟨hi, fun x H' y => ?_⟩
  obtain ⟨rfl, rfl⟩ := y
  exact ⟨Z1, Grow.refl _ _ _, r, by rw [Int.zero_add]; exact .int _⟩
end
section
variable {X : Cx} {W : WX} {tg e a b : Expr} {pos p : Pos} {me : ME} {ms : MA}
theorem si_seq (he : Sd X W e me) : SdI X W tg e (miSeq me) := ⟨fun pins s σ H R I h => by
  obtain ⟨ρ, st, Z, ι, en, r, q⟩ := h
  unfold miSeq at q
  cases hx : me ρ st with
  | none => rw [hx] at q; exact q.elim
  | some z => cases z with
    | ex x st1 => rw [hx] at q; exact (pi_list he).run pins s σ H R I ⟨ρ, st, Z, ι, en, r, by rw [hx]; exact q⟩
    | ok d st1 =>
      rw [hx] at q
      dsimp only [bnd_ok] at q
      cases d with
      | lst l =>
        refine (pi_list he).run pins s σ H R I ⟨ρ, st, Z, ι, en, r, by
          rw [hx]
          intro v H1 Z1 ι1 g r1 rv
          cases rv with
          | lst h hq => exact ⟨_, rfl, ⟨_, SqL.of (r1.zin _ _ h)⟩, q _ H1 Z1 ι1 g r1 (walk_lst h hq)⟩⟩
      | tup l =>
        refine (pi_tup he).run pins s σ H R I ⟨ρ, st, Z, ι, en, r, by
          rw [hx]
          intro v H1 Z1 ι1 g r1 rv
          cases rv with
          | tup h hq => exact ⟨_, rfl, ⟨_, same_sqt r1.zin h⟩, q _ H1 Z1 ι1 g r1 (walk_tupM h hq)⟩⟩
      | str z =>
        refine (pi_str he).run pins s σ H R I ⟨ρ, st, Z, ι, en, r, by
          rw [hx]
          intro v H1 Z1 ι1 g r1 rv
          cases rv
          exact ⟨z, rfl, q _ H1 Z1 ι1 g r1 walk_txt⟩⟩
      | ref n =>
        cases hs : st1[n]? with
        | none => simp only [seqOf, hs] at q; exact q.elim
        | some o => cases o with
          | lst l =>
            simp only [seqOf, hs] at q
            refine (pi_list he).run pins s σ H R I ⟨ρ, st, Z, ι, en, r, by
              rw [hx]
              intro v H1 Z1 ι1 g r1 rv
              cases rv with
              | @ref n a h =>
                obtain ⟨_, xs, hH, _⟩ := r1.ob n _ a hs h
                exact ⟨_, rfl, ⟨_, SqL.of hH⟩, q _ H1 Z1 ι1 g r1 (walk_box h)⟩⟩
          | _ => simp only [seqOf, hs] at q; exact q.elim
      | _ => exact q.elim⟩
def rng? : List D → Option Src
  | [.int n] => if -4611686018427387904 ≤ n ∧ n < 4611686018427387904 then some (upto n.toNat, any_) else none
  | _ => none
def miRng (a : MA) : MI := fun ρ s => bnd (a ρ s) fun ds s => ofO (rng? ds) s
theorem si_range (hm : X.mg "range" = none) (ha : SdA X W [a] ms) (hg : Gl X "range" := by rfl) (hs : starEach [a] X.env = [(false, eval a X.env)] := by rfl) : SdI X W tg (.Call (.Name "range" p) [a] [] pos) (miRng ms) := by
  refine pi_imp (pi_range1 hg hm ha hs) fun σ H R ⟨ρ, st, Z, ι, e, r, q⟩ => ?_
  refine rdG.mono (kont e r q) fun vs H1 ⟨st1, Z1, ι1, ds, g1, e1, r1, hv, q1⟩ => ?_
  cases hv with
  | nil => exact q1.elim
  | cons h1 h2 => cases h2 with
    | cons _ _ => cases h1 <;> exact q1.elim
    | nil =>
      cases h1 with
      | int n =>
        unfold rng? at q1
        dsimp only at q1
        split at q1
        · rename_i hn
          exact ⟨n, rfl, by omega, by omega, q1 _ H1 Z1 ι1 (Grow.refl _ _ _) r1 walk_rng⟩
        · exact q1.elim
      | _ => exact q1.elim
end

/-! ### zip and enumerate of lists, tuples, texts -/
/-- a source that an iterator draws from -/
inductive Sk where
  | lst (a : Addr)
  | tup (a : Addr)
  | txt (z : Str) (t : Tok)
def Sk.at_ (K : PySem.W.Frag) (H : Hp) (xs : List V) : Sk → Prop
  | .lst a => SqL K H a xs
  | .tup a => SqT K H a xs
  | .txt z _ => xs = z.cps.toList.map fun c => V.str ⟨#[c]⟩
def Sk.own (it : Addr) (i : Nat) (h : Heap) : Sk → Prop
  | .lst a => h.IsListIter it a i
  | .tup a => h.IsTupleIter it a i
  | .txt z t => h.IsStrIter it (strIterType z) z t i
def Sk.is (v : V) : Sk → Prop
  | .lst a => v = .ref a
  | .tup a => v = .ref a
  | .txt z _ => v = .str z
def Sk.first : Sk → Obj
  | .lst l => { cls := .type "list_iterator", data := .fields #[.ref l, .int 0 0] }
  | .tup l => { cls := .type "tuple_iterator", data := .fields #[.ref l, .int 0 0] }
  | .txt x t => { cls := .type (strIterType x), data := .fields #[.str x t, .int 0 0] }
def Sk.val : Sk → Value
  | .lst a => .ref a
  | .tup a => .ref a
  | .txt z t => .str z t
theorem Sk.own_obj {k : Sk} {it : Addr} {i : Nat} {h : Heap} (o : k.own it i h) : ∃ ob, h.get? it = some ob ∧ ∀ v, ob.data ≠ .cell v := by
  cases k with
  | lst a => obtain ⟨ob, e, _, d⟩ := o; exact ⟨ob, e, fun v z => by rw [d] at z; cases z⟩
  | tup a => obtain ⟨ob, e, _, d⟩ := o; exact ⟨ob, e, fun v z => by rw [d] at z; cases z⟩
  | txt x t => obtain ⟨ob, e, _, d⟩ := o; exact ⟨ob, e, fun v z => by rw [d] at z; cases z⟩
theorem Sk.own_keep {k : Sk} {it : Addr} {i : Nat} {h h' : Heap} (o : k.own it i h) (e : ∀ ob, h.get? it = some ob → h'.get? it = some ob) : k.own it i h' := by
  cases k with
  | lst a => exact Heap.IsListIter.at o e
  | tup a => exact Heap.IsTupleIter.at o e
  | txt x t => obtain ⟨ob, q, c⟩ := o; exact ⟨ob, e _ q, c⟩
theorem Sk.first_own (k : Sk) {it : Addr} {h : Heap} (e : h.get? it = some k.first) : k.own it 0 h := by
  cases k with
  | lst a => exact ⟨_, e, rfl, rfl⟩
  | tup a => exact ⟨_, e, rfl, rfl⟩
  | txt x t => exact ⟨_, e, rfl, rfl⟩
section
variable {X : Cx} {pins : List (Addr × Obj)} {σ : L2.St} {H : Hp} {s : Shared}
/-- what stands as a source is no cell of an iterator's own -/
theorem fp_ne_sq (I : Inv X pins σ H s) {a b : Addr} {xs : List V} (h : SqL X.K H a xs ∨ SqT X.K H a xs) (f : FpOk X pins H b) : b ≠ a := by
  have kk : ∀ o, X.K.lookup a = some o → b ≠ a := fun o e z => by
    have hb : X.base.get? b = some o := by rw [z]; exact I.ok.mod.kin a o e
    obtain ⟨_, _, _, h4, _, _⟩ := f
    rcases h4 with q | q
    · exact I.ok.noex b o hb q
    · exact absurd (Nat.lt_of_lt_of_le (Heap.lt_size (I.ok.bs b o hb).1) q) (Nat.lt_irrefl _)
  have hh : ∀ o, H a = some o → b ≠ a := fun o e z => by
    rw [← z, f.1] at e; cases e
  rcases h with (h | ⟨o, _, _, e, _⟩) | (h | ⟨o, _, _, e, _⟩)
  · rcases h with h | ⟨o, h⟩
    · exact hh _ h
    · exact hh _ h
  · exact kk _ e
  · rcases h with h | ⟨o, h⟩
    · exact hh _ h
    · exact hh _ h
  · exact kk _ e
theorem Sk.draws {A : Around} {k : Sk} {xs : List V} (I : Inv X pins σ H s) (hh : A.handled = none) (at_ : k.at_ X.K H xs) {it : Addr} (hf : FpOk X pins H it) : ∃ (fp : List Addr) (P : Nat → Value → Prop) (St : Nat → Heap → Prop), Draws X.prog X.w A it fp xs.length P St ∧ it ∈ fp ∧
    (∀ i, k.own it i s.heap → St i s.heap) ∧ (∀ i h, St i h → k.own it i h) ∧ (∀ i x, P i x → ∃ y, xs[i]? = some y ∧ RelV y x) ∧ (∀ b, FpOk X pins H b → b ≠ it → b ∉ fp) := by
  cases k with
  | lst a =>
    have at' : SqL X.K H a xs := at_
    obtain ⟨its, rv, p, hz⟩ := I.list at'
    have hl := rv.length
    have D := Draws.list (prog := X.prog) (w := X.w) (A := A) hh it a (fp_ne_sq I (.inl at') hf).symm its.toArray
    have D' : Draws X.prog X.w A it [it, a] xs.length (fun i v => its.toArray[i]? = some v) (fun i h => h.IsListIter it a i ∧ h.IsList a its.toArray) := by
      rw [hl]
      exact (show its.toArray.size = its.length from List.size_toArray) ▸ D
    refine ⟨_, _, _, D', by simp, fun i o => ⟨o, p.isList⟩, fun i h q => q.1, fun i x q => ?_, fun b f nb hm => ?_⟩
    · have q' : its[i]? = some x := by simpa using q
      have hi : i < xs.length := by rw [hl]; exact (List.getElem?_eq_some_iff.mp q').1
      obtain ⟨u, hu, ru⟩ := rv.get (List.getElem?_eq_getElem hi)
      rw [q'] at hu
      cases hu
      exact ⟨_, List.getElem?_eq_getElem hi, ru⟩
    · have e : b = it ∨ b = a := by simpa using hm
      rcases e with e | e
      · exact nb e
      · exact fp_ne_sq I (.inl at') f e
  | tup a =>
    have at' : SqT X.K H a xs := at_
    obtain ⟨its, rv, p, hz⟩ := I.tuple at'
    have hl := rv.length
    have D := Draws.tuple (prog := X.prog) (w := X.w) (A := A) hh it a (fp_ne_sq I (.inr at') hf).symm its.toArray
    have D' : Draws X.prog X.w A it [it, a] xs.length (fun i v => its.toArray[i]? = some v) (fun i h => h.IsTupleIter it a i ∧ h.IsTuple a its.toArray) := by
      rw [hl]
      exact (show its.toArray.size = its.length from List.size_toArray) ▸ D
    refine ⟨_, _, _, D', by simp, fun i o => ⟨o, p⟩, fun i h q => q.1, fun i x q => ?_, fun b f nb hm => ?_⟩
    · have q' : its[i]? = some x := by simpa using q
      have hi : i < xs.length := by rw [hl]; exact (List.getElem?_eq_some_iff.mp q').1
      obtain ⟨u, hu, ru⟩ := rv.get (List.getElem?_eq_getElem hi)
      rw [q'] at hu
      cases hu
      exact ⟨_, List.getElem?_eq_getElem hi, ru⟩
    · have e : b = it ∨ b = a := by simpa using hm
      rcases e with e | e
      · exact nb e
      · exact fp_ne_sq I (.inr at') f e
  | txt z t =>
    have at' : xs = z.cps.toList.map fun c => V.str ⟨#[c]⟩ := at_
    subst at'
    have D := Draws.text (prog := X.prog) (w := X.w) (A := A) hh it z t
    have D' : Draws X.prog X.w A it [it] (z.cps.toList.map fun c => V.str ⟨#[c]⟩).length (fun i v => ∃ c u, z.cps[i]? = some c ∧ v = .str ⟨#[c]⟩ u) (fun i h => h.IsStrIter it (strIterType z) z t i) := by
      rw [List.length_map, Array.length_toList]
      exact D
    refine ⟨_, _, _, D', by simp, fun i o => o, fun i h q => q, fun i x q => ?_, fun b f nb hm => ?_⟩
    · obtain ⟨c, u, hc, rfl⟩ := q
      exact ⟨.str ⟨#[c]⟩, by simp [hc], u, rfl⟩
    · exact nb (by simpa using hm)
theorem Sk.begins {k : Sk} {xs : List V} (I : Inv X pins σ H s) (at_ : k.at_ X.K H xs) : ∃ Hc : Heap → Prop, Begins k.val k.first Hc ∧ Hc s.heap := by
  cases k with
  | lst a =>
    obtain ⟨its, rv, p, hz⟩ := I.list (show SqL X.K H a xs from at_)
    exact ⟨_, begins_list a its.toArray, p.isList⟩
  | tup a =>
    obtain ⟨its, rv, p, hz⟩ := I.tuple (show SqT X.K H a xs from at_)
    exact ⟨_, begins_tuple a its.toArray, p⟩
  | txt z t => exact ⟨_, begins_text z t, trivial⟩
end
/-- zip of two sources -/
def ItZ (K : PySem.W.Frag) (k1 k2 : Sk) : It :=
  ⟨fun i H => ∃ xs ys, k1.at_ K H xs ∧ k2.at_ K H ys ∧ i < xs.length ∧ i < ys.length,
    fun i H v H' => ∃ T x y, v = .ref T ∧ H T = none ∧ H' = upd H T (.tup [x, y]) ∧ (∀ xs, k1.at_ K H xs → xs[i]? = some x) ∧ ∀ ys, k2.at_ K H ys → ys[i]? = some y,
    fun i H => ∃ xs ys, k1.at_ K H xs ∧ k2.at_ K H ys ∧ i = min xs.length ys.length⟩
theorem Sk.inj {X : Cx} {pins : List (Addr × Obj)} {σ : L2.St} {H : Hp} {s : Shared} {k : Sk} {xs ys : List V} (I : Inv X pins σ H s) (h : k.at_ X.K H xs) (h' : k.at_ X.K H ys) : xs = ys := by
  cases k with
  | lst a => exact I.list_inj h h'
  | tup a => exact I.tuple_inj h h'
  | txt z t => exact (show xs = _ from h).trans (show ys = _ from h').symm
structure Five (z TI TO i1 i2 : Addr) : Prop where
  a1 : z ≠ TI
  a2 : z ≠ TO
  a3 : z ≠ i1
  a4 : z ≠ i2
  a5 : TI ≠ TO
  a6 : TI ≠ i1
  a7 : TI ≠ i2
  a8 : TO ≠ i1
  a9 : TO ≠ i2
  a10 : i1 ≠ i2
theorem turn_zipM {P : Program} {w : World} {K : PySem.W.Frag} {elts : List Expr} {kk : Nat} {tpos : Pos} {k1 k2 : Sk} {z TI TO i1 i2 : Addr} (D : Five z TI TO i1 i2) :
    Turn P w K (.Tuple elts kk tpos) (ItZ K k1 k2) [z, TI, TO, i1, i2] z (fun i h => IsZip h z TI TO .none ∧ IsTupOf2 h TI (.ref i1) (.ref i2) ∧ (∃ x y, IsTupOf2 h TO x y) ∧ k1.own i1 i h ∧ k2.own i2 i h) where
  mem := by simp
  obj := fun i h st c hc => by
    obtain ⟨hz, hTI, ⟨x, y, hTO⟩, h1, h2⟩ := st
    have e' : c = z ∨ c = TI ∨ c = TO ∨ c = i1 ∨ c = i2 := by simpa using hc
    rcases e' with q | q | q | q | q
    · rw [q]; exact ⟨_, hz, fun v q => nomatch q⟩
    · rw [q]; exact ⟨_, hTI, fun v q => nomatch q⟩
    · rw [q]; exact ⟨_, hTO, fun v q => nomatch q⟩
    · rw [q]; exact (Sk.own_obj h1)
    · rw [q]; exact (Sk.own_obj h2)
  keep := fun i h h' st k => by
    obtain ⟨hz, hTI, ⟨x, y, hTO⟩, h1, h2⟩ := st
    exact ⟨k z (by simp) _ hz, k TI (by simp) _ hTI, ⟨x, y, k TO (by simp) _ hTO⟩, Sk.own_keep h1 fun o q => k i1 (by simp) o q, Sk.own_keep h2 fun o q => k i2 (by simp) o q⟩
  item := by
    intro X hP hw hK hc i pins s σ H E I hf st hg
    subst hP hw hK
    obtain ⟨hz, hTI, ⟨x0, y0, hTO⟩, h1, h2⟩ := st
    obtain ⟨xs, ys, at1, at2, l1, l2⟩ := hg
    have hh : X.A.in1.handled = none := I.ok.hd hc
    obtain ⟨fp1, P1, St1, D1, m1, s1, o1, y1, n1⟩ := Sk.draws (A := X.A.in1) I hh at1 (hf i1 (by simp))
    obtain ⟨fp2, P2, St2, D2, m2, s2, o2, y2, n2⟩ := Sk.draws (A := X.A.in1) I hh at2 (hf i2 (by simp))
    have S : ZipSep2 z TI TO i1 i2 fp1 fp2 := ⟨D.a1.symm, D.a2.symm, D.a5, D.a6, m1, n1 z (hf z (by simp)) D.a3, n1 TO (hf TO (by simp)) D.a8, D.a7, m2, n2 z (hf z (by simp)) D.a4, n2 TO (hf TO (by simp)) D.a9, n2 i1 (hf i1 (by simp)) D.a10, n1 i2 (hf i2 (by simp)) D.a10.symm⟩
    have hzl : z < s.heap.objs.size := Heap.lt_size hz
    refine wpAny_pyNext_zipD2_item S D1 D2 hz hTI hTO (s1 i h1) (s2 i h2) l1 l2 fun u1 u2 h' tk p1 p2 z' TO' h1' h2' hT hsz hk => ?_
    refine ⟨_, rfl, wpAny_letOwnedTupleGo_zip (s := { s with heap := h', toks := tk }) z' fun h'' z'' sb => ?_⟩
    obtain ⟨x, hx, rx⟩ := y1 i u1 p1
    obtain ⟨y, hy, ry⟩ := y2 i u2 p2
    have hT2 : h''.get? s.heap.objs.size = some { cls := .type "tuple", data := .seq #[u1, u2] } := (sb.2 _ (Nat.ne_of_gt hzl)).trans hT
    have new : ObjOk X.prog X.w (upd H s.heap.objs.size (.tup [x, y])) h'' s.heap.objs.size (.tup [x, y]) :=
      ⟨by show 2 ≤ sizeLine; decide, [u1, u2], .cons rx (.cons ry .nil), ⟨_, hT2, rfl, _, rfl⟩⟩
    have I1 : Inv X pins σ (upd H s.heap.objs.size (.tup [x, y])) { s with heap := h'', toks := tk } :=
      I.turnedNew (t' := tk) (ch := [z, TI, TO, i1, i2]) (fun c o hb q => (sb.2 c (fun q' => hb (by simp [q']))).trans (hk c o (fun q' => hb (by simp [q'])) (fun q' => hb (by simp [q'])) (fun q' => hb (by simp [q'])) (fun q' => hb (by simp [q'])) q)) hf (Nat.le_refl _) new
    refine ⟨.ref s.heap.objs.size, _, I1, rfl, ⟨_, x, y, rfl, I.hok.fresh (Nat.le_refl _), rfl, fun l hl => by rw [Sk.inj I hl at1]; exact hx, fun l hl => by rw [Sk.inj I hl at2]; exact hy⟩, ⟨z'', ?_, ⟨u1, u2, ?_⟩, ?_, ?_⟩, fun c hcm => ?_⟩
    · exact (sb.2 _ D.a1.symm).trans (hk _ _ D.a1.symm D.a5 D.a6 D.a7 hTI)
    · exact (sb.2 _ D.a2.symm).trans TO'
    · exact Sk.own_keep (o1 _ _ h1') fun o q => (sb.2 _ D.a3.symm).trans q
    · exact Sk.own_keep (o2 _ _ h2') fun o q => (sb.2 _ D.a4.symm).trans q
    · have hlt : c < s.heap.objs.size := by
        have e' : c = z ∨ c = TI ∨ c = TO ∨ c = i1 ∨ c = i2 := by simpa using hcm
        rcases e' with q | q | q | q | q
        · rw [q]; exact hzl
        · rw [q]; exact Heap.lt_size hTI
        · rw [q]; exact Heap.lt_size hTO
        · rw [q]; obtain ⟨_, e1, _⟩ := (Sk.own_obj h1); exact Heap.lt_size e1
        · rw [q]; obtain ⟨_, e2, _⟩ := (Sk.own_obj h2); exact Heap.lt_size e2
      rw [upd_ne (Nat.ne_of_lt hlt)]
      exact (hf c hcm).1
  done := by
    intro X hP hw hK hc i pins s σ H E I hf st hg
    subst hP hw hK
    obtain ⟨hz, hTI, ⟨x0, y0, hTO⟩, h1, h2⟩ := st
    obtain ⟨xs, ys, at1, at2, hi⟩ := hg
    have hh : X.A.in1.handled = none := I.ok.hd hc
    obtain ⟨fp1, P1, St1, D1, m1, s1, o1, y1, n1⟩ := Sk.draws (A := X.A.in1) I hh at1 (hf i1 (by simp))
    obtain ⟨fp2, P2, St2, D2, m2, s2, o2, y2, n2⟩ := Sk.draws (A := X.A.in1) I hh at2 (hf i2 (by simp))
    have S : ZipSep2 z TI TO i1 i2 fp1 fp2 := ⟨D.a1.symm, D.a2.symm, D.a5, D.a6, m1, n1 z (hf z (by simp)) D.a3, n1 TO (hf TO (by simp)) D.a8, D.a7, m2, n2 z (hf z (by simp)) D.a4, n2 TO (hf TO (by simp)) D.a9, n2 i1 (hf i1 (by simp)) D.a10, n1 i2 (hf i2 (by simp)) D.a10.symm⟩
    exact wpAny_pyNext_zipD2_end S D1 D2 hz hTI hTO (s1 i h1) (s2 i h2) (by omega) (by omega) (by omega) fun h' tk hk => ⟨rfl, I.turnedL (t' := tk) (ch := [z, TI, TO, i1, i2]) (fun c o hb q =>
      hk c o (fun q' => hb (by simp [q'])) (fun q' => hb (by simp [q'])) (fun q' => hb (by simp [q'])) (fun q' => hb (by simp [q'])) q) hf⟩
  self := fun A i s Q E st h => wpAny_pyIter_zip st.1 h
def ItE (K : PySem.W.Frag) (k : Sk) : It :=
  ⟨fun i H => ∃ xs, k.at_ K H xs ∧ i < xs.length,
    fun i H v H' => ∃ T x, v = .ref T ∧ H T = none ∧ H' = upd H T (.tup [.int (i : Nat), x]) ∧ ∀ xs, k.at_ K H xs → xs[i]? = some x,
    fun i H => ∃ xs, k.at_ K H xs ∧ i = xs.length⟩
theorem turn_enumM {P : Program} {w : World} {K : PySem.W.Frag} {elts : List Expr} {kk : Nat} {tpos : Pos} {k : Sk} {e it : Addr} (hne : e ≠ it) :
    Turn P w K (.Tuple elts kk tpos) (ItE K k) [e, it] e (fun i h => (∃ old, IsEnum h e it ((i : Nat) : Int) old) ∧ k.own it i h) where
  mem := by simp
  obj := fun i h st b hb => by
    obtain ⟨⟨old, he⟩, h1⟩ := st
    have e' : b = e ∨ b = it := by simpa using hb
    rcases e' with z | z
    · rw [z]; exact ⟨_, he, fun v q => nomatch q⟩
    · rw [z]; exact (Sk.own_obj h1)
  keep := fun i h h' st kp => let ⟨⟨old, he⟩, hi⟩ := st; ⟨⟨old, kp e (by simp) _ he⟩, Sk.own_keep hi fun o q => kp it (by simp) o q⟩
  item := by
    intro X hP hw hK hc i pins s σ H E I hf st hg
    subst hP hw hK
    obtain ⟨⟨old, he⟩, hit⟩ := st
    obtain ⟨xs, at1, l1⟩ := hg
    have hh : X.A.in1.handled = none := I.ok.hd hc
    obtain ⟨fp1, P1, St1, D1, m1, s1, o1, y1, n1⟩ := Sk.draws (A := X.A.in1) I hh at1 (hf it (by simp))
    have hel : e < s.heap.objs.size := Heap.lt_size he
    have hil : it < s.heap.objs.size := by obtain ⟨_, q, _⟩ := (Sk.own_obj hit); exact Heap.lt_size q
    refine wpAny_pyNext_enum_itemC D1 he (s1 i hit) l1 hne (n1 e (hf e (by simp)) hne) fun u h' tk p1 ho hit' hT hsz hk => ?_
    refine ⟨_, rfl, wpAny_letOwnedTupleGo_enum (s := { s with heap := h', toks := tk + 1 }) ho fun h'' he' sb => ?_⟩
    obtain ⟨x, hx, rx⟩ := y1 i u p1
    have hT2 : h''.get? s.heap.objs.size = some { cls := .type "tuple", data := .seq #[.int i tk, u] } := (sb.2 _ (Nat.ne_of_gt hel)).trans hT
    have new : ObjOk X.prog X.w (upd H s.heap.objs.size (.tup [.int (i : Nat), x])) h'' s.heap.objs.size (.tup [.int (i : Nat), x]) :=
      ⟨by show 2 ≤ sizeLine; decide, [.int i tk, u], .cons ⟨_, rfl⟩ (.cons rx .nil), ⟨_, hT2, rfl, _, rfl⟩⟩
    have I1 : Inv X pins σ (upd H s.heap.objs.size (.tup [.int (i : Nat), x])) { s with heap := h'', toks := tk + 1 } :=
      I.turnedNew (ch := [e, it]) (fun b ob hb q => (sb.2 b (fun z => hb (by simp [z]))).trans (hk b ob (fun z => hb (by simp [z])) (fun z => hb (by simp [z])) q)) hf (Nat.le_refl _) new
    refine ⟨.ref s.heap.objs.size, _, I1, rfl, ⟨_, x, rfl, I.hok.fresh (Nat.le_refl _), rfl, fun l hl => by rw [Sk.inj I hl at1]; exact hx⟩, ⟨⟨u, ?_⟩, Sk.own_keep (o1 _ _ hit') fun o q => (sb.2 it (Ne.symm hne)).trans q⟩, fun b hb => ?_⟩
    · have e1 : ((i + 1 : Nat) : Int) = (i : Int) + 1 := by omega
      rw [e1]; exact he'
    · have hb' : b < s.heap.objs.size := by
        have e' : b = e ∨ b = it := by simpa using hb
        rcases e' with z | z
        · rw [z]; exact hel
        · rw [z]; exact hil
      rw [upd_ne (Nat.ne_of_lt hb')]
      exact (hf b hb).1
  done := by
    intro X hP hw hK hc i pins s σ H E I hf st hg
    subst hP hw hK
    obtain ⟨⟨old, he⟩, hit⟩ := st
    obtain ⟨xs, at1, hi⟩ := hg
    subst hi
    have hh : X.A.in1.handled = none := I.ok.hd hc
    obtain ⟨fp1, P1, St1, D1, m1, s1, o1, y1, n1⟩ := Sk.draws (A := X.A.in1) I hh at1 (hf it (by simp))
    obtain ⟨f0, f1, f2, f3, f4, f5⟩ := hf it (by simp)
    exact wpAny_pyNext_enum_endD D1 he (s1 _ hit) fun h' eb => ⟨rfl, I.turned (t' := s.toks) (fun b o hb q => eb b o hb q) f0 f1 f3 f4 f5⟩
  self := fun A i s Q E st h => let ⟨⟨_, he⟩, _⟩ := st; wpAny_pyIter_enum he h
/-- sources at the level of values -/
def SrcC (K : PySem.W.Frag) (H : Hp) (v : V) (xs : List V) (m : Tok → Sk) : Prop := (∃ a, v = .ref a ∧ m = (fun _ => .lst a) ∧ SqL K H a xs) ∨ (∃ a, v = .ref a ∧ m = (fun _ => .tup a) ∧ SqT K H a xs) ∨ ∃ z, v = .str z ∧ m = (fun t => .txt z t) ∧ xs = z.cps.toList.map fun c => V.str ⟨#[c]⟩
theorem SrcC.sk {K : PySem.W.Frag} {H : Hp} {v : V} {xs : List V} {m : Tok → Sk} (h : SrcC K H v xs m) {u : Value} (r : RelV v u) : ∃ t, (m t).at_ K H xs ∧ (m t).val = u := by
  rcases h with ⟨a, rfl, rfl, h⟩ | ⟨a, rfl, rfl, h⟩ | ⟨z, rfl, rfl, h⟩
  · cases r; exact ⟨0, h, rfl⟩
  · cases r; exact ⟨0, h, rfl⟩
  · obtain ⟨t, rfl⟩ := r; exact ⟨t, h, rfl⟩
def iZipM (K : PySem.W.Frag) (ta : TA) : TI := fun σ H R => ta σ H fun vs H1 => ∃ v1 v2 xs ys m1 m2, vs = [v1, v2] ∧ SrcC K H1 v1 xs m1 ∧ SrcC K H1 v2 ys m2 ∧ ∀ t1 t2, R (ItZ K (m1 t1) (m2 t2)) H1
def iEnumM (K : PySem.W.Frag) (ta : TA) : TI := fun σ H R => ta σ H fun vs H1 => ∃ v xs m, vs = [v] ∧ SrcC K H1 v xs m ∧ ∀ t, R (ItE K (m t)) H1
set_option maxHeartbeats 1000000 in
theorem meets_enum1 {v : Value} {o : Obj} {H : Heap → Prop} (B : Begins v o H) :
    Meets (Builtin.«enumerate.__new__» ⟨[.type "enumerate", v], []⟩) (fun _ R s => H s.heap ∧
      R (.ok (.ret (.ref (s.heap.push o).objs.size))) { s with heap := (s.heap.push o).push { cls := .type "enumerate", data := .fields #[.none, .bool false, .ref s.heap.objs.size, rawInt 0, .none, .none] } }) :=
  .of_wp fun prog w A R s h => by
    obtain ⟨hp, g, d, tk, os⟩ := s; obtain ⟨h1, h⟩ := h
    have hsub := sub_enumerate
    have q1 : ∀ {A' : Around} {E : Value → Shared → Prop} {Q : Value → Shared → Prop}, Q (.ref hp.objs.size) ⟨hp.push o, g, d, tk, os⟩ → wpAny (model prog w) A' (pyIter v) Q E ⟨hp, g, d, tk, os⟩ :=
      fun q => B.iter prog w _ _ ⟨hp, g, d, tk, os⟩ _ h1 q
    wp_walk using q1
    refine wpAny_stack_any fun st => wpAny_pure ?_
    split
    · rename_i c _ _ _ _ _
      cases (c == Value.type "enumerate")
      · wp_walk using q1
        exact ⟨_, rfl, h⟩
      · wp_walk using q1
        exact ⟨_, rfl, h⟩
    · wp_walk using q1
      exact ⟨_, rfl, h⟩
theorem enum1_begins {prog : Program} {w : World} {A : Around} {E : Value → Shared → Prop} {s : Shared} {v : Value} {o : Obj} {Hc : Heap → Prop} {Q : Value → Shared → Prop} (B : Begins v o Hc) (h1 : Hc s.heap)
    (h : ∀ h', IsEnum h' (s.heap.objs.size + 1) s.heap.objs.size 0 .none → h'.get? s.heap.objs.size = some o → (∀ b o, s.heap.get? b = some o → h'.get? b = some o) → Q (.ref (s.heap.objs.size + 1)) { s with heap := h' }) :
    wpAny (model prog w) A (call (.type "enumerate") [v]) Q E s := by
  refine PySem.callType_new F.called_enumerate (by decide) (F.typeCall_enumerate_1 _) (F.newCall_enumerate_1 _) (fun obj => F.args_object_init_2 obj _) F.entry_enumerate_new
    (meets_enum1 B) ⟨h1, ?_⟩
  have hz : (s.heap.push o).objs.size = s.heap.objs.size + 1 := Heap.size_push ..
  show _ ∧ _
  rw [hz]
  have he : IsEnum ((s.heap.push o).push { cls := .type "enumerate", data := .fields #[.none, .bool false, .ref s.heap.objs.size, rawInt 0, .none, .none] }) (s.heap.objs.size + 1) s.heap.objs.size 0 .none := by
    have := Heap.get?_push_size (s.heap.push o) (o := { cls := .type "enumerate", data := .fields #[.none, .bool false, .ref s.heap.objs.size, rawInt 0, .none, .none] }) rfl
    rw [hz] at this; exact this
  refine ⟨⟨_, he, rfl⟩, h _ he (Heap.get?_push_of_some _ (Heap.get?_push_size _ B.free)) fun b o x => Heap.get?_push_of_some _ (Heap.get?_push_of_some _ x)⟩
section
variable {X : Cx} {e e2 : Expr} {ta : TA} {p pos tpos : Pos} {elts : List Expr} {kk : Nat}
theorem five_new (N : Nat) : Five (N + 4) (N + 2) (N + 3) N (N + 1) := ⟨by simp, by simp, by simp, by simp, by simp, by simp, by simp, by simp, by simp, by simp⟩
theorem pi_zipM (hg : Gl X "zip") (hm : X.mg "zip" = none) (ha : PA X [e, e2] ta)
    (hs : starEach [e, e2] X.env = (false, eval e X.env) :: starEach [e2] X.env := by rfl) (hpl : (backTo pos (starEach [e2] X.env)).any (·.1) = false := by rfl) :
    PI X (.Tuple elts kk tpos) (.Call (.Name "zip" p) [e, e2] [] pos) (iZipM X.K ta) := by
  refine ⟨fun pins s σ H R I h => ?_⟩
  refine PyProof.Rows.Call_ (ld_blt I hg hm PyProof.Rows.boot_zip (PyProof.Rows.callWith_type1 (thn (ha.run pos pins s σ H _ I h) fun us s1 ⟨vs, H1, I1, r1, q1⟩ => ?_) hs hpl))
  obtain ⟨v1, v2, xs, ys, m1, m2, ex, b1, b2, q1⟩ := q1
  subst ex
  cases r1 with
  | cons r rr =>
    cases rr with
    | cons r' rr =>
      cases rr
      obtain ⟨t1, a1, e1⟩ := b1.sk r
      obtain ⟨t2, a2, e2⟩ := b2.sk r'
      subst e1 e2
      obtain ⟨Hc1, B1, c1⟩ := Sk.begins I1 a1
      obtain ⟨Hc2, B2, c2⟩ := Sk.begins I1 a2
      have fresh5 : ∀ c, c ∈ [s1.heap.objs.size + 4, s1.heap.objs.size + 2, s1.heap.objs.size + 3, s1.heap.objs.size, s1.heap.objs.size + 1] → FpOk X pins H1 c := fun c hcm => by
        have e' : c = s1.heap.objs.size + 4 ∨ c = s1.heap.objs.size + 2 ∨ c = s1.heap.objs.size + 3 ∨ c = s1.heap.objs.size ∨ c = s1.heap.objs.size + 1 := by simpa using hcm
        have hle : s1.heap.objs.size ≤ c := by
          rcases e' with z | z | z | z | z
          · rw [z]; exact Nat.le_add_right _ _
          · rw [z]; exact Nat.le_add_right _ _
          · rw [z]; exact Nat.le_add_right _ _
          · rw [z]; exact Nat.le_refl _
          · rw [z]; exact Nat.le_add_right _ _
        exact I1.fpOk hle (I1.hok.fresh hle)
      refine zip_begins2 B1 B2 c1 c2 fun h' hz hTI hTO h1 h2 hsz hk => wpAny_pyIter_zip hz ?_
      have I2 : Inv X pins σ H1 { s1 with heap := h' } := I1.kept (t' := s1.toks) hk
      exact ⟨s1.heap.objs.size + 4, [s1.heap.objs.size + 4, s1.heap.objs.size + 2, s1.heap.objs.size + 3, s1.heap.objs.size, s1.heap.objs.size + 1], _, _, H1, rfl, I2, turn_zipM (five_new _), ⟨hz, hTI, ⟨_, _, hTO⟩, (m1 t1).first_own h1, (m2 t2).first_own h2⟩, fresh5, q1 t1 t2⟩
theorem pi_enumM (hg : Gl X "enumerate") (hm : X.mg "enumerate" = none) (ha : PA X [e] ta) (hs : starEach [e] X.env = [(false, eval e X.env)] := by rfl) :
    PI X (.Tuple elts kk tpos) (.Call (.Name "enumerate" p) [e] [] pos) (iEnumM X.K ta) := by
  refine ⟨fun pins s σ H R I h => ?_⟩
  refine PyProof.Rows.Call_ (ld_blt I hg hm PyProof.Rows.boot_enumerate (PyProof.Rows.callWith_type1 (thn (ha.run pos pins s σ H _ I h) fun us s1 ⟨vs, H1, I1, r1, q1⟩ => ?_) hs rfl))
  obtain ⟨v, xs, m, ex, b, q⟩ := q1
  subst ex
  cases r1 with
  | cons r rr =>
    cases rr
    obtain ⟨t, a, e1⟩ := b.sk r
    subst e1
    obtain ⟨Hc, B, c⟩ := Sk.begins I1 a
    refine enum1_begins B c fun h' he hit hk => wpAny_pyIter_enum he ?_
    have I2 : Inv X pins σ H1 { s1 with heap := h' } := I1.kept (t' := s1.toks) hk
    refine ⟨s1.heap.objs.size + 1, [s1.heap.objs.size + 1, s1.heap.objs.size], _, _, H1, rfl, I2, turn_enumM (Nat.succ_ne_self _), ⟨⟨.none, he⟩, (m t).first_own hit⟩, fun b hb => ?_, q t⟩
    have e' : b = s1.heap.objs.size + 1 ∨ b = s1.heap.objs.size := by simpa using hb
    have hle : s1.heap.objs.size ≤ b := by
      rcases e' with z | z
      · rw [z]; exact Nat.le_add_right _ _
      · rw [z]; exact Nat.le_refl _
    exact I1.fpOk hle (I1.hok.fresh hle)
end

/-! ### zip and enumerate in the small semantics -/
/-- a source: its items by the state -/
structure SrcR (K : PySem.W.Frag) (Z : Hp) (ι : List Addr) (v : V) (m : Tok → Sk) (ds : List D) (G : Sto → Prop) : Prop where
  src : ∀ st H Z1 ι1, Ext Z ι Z1 ι1 → Rel K st H Z1 ι1 → G st → ∃ xs, SrcC K H v xs m
  at_ : ∀ st H Z1 ι1 t, Ext Z ι Z1 ι1 → Rel K st H Z1 ι1 → G st → ∃ xs, (m t).at_ K H xs ∧ RpL K Z1 ι1 xs ds
theorem src_of {K : PySem.W.Frag} {Z H0 : Hp} {ι : List Addr} {v : V} {d : D} {st0 : Sto} {src : Src} (h : Rp K Z ι v d) (r0 : Rel K st0 H0 Z ι) (hs : seqOf st0 d = some src) : src.2 st0 ∧ ∃ m, SrcR K Z ι v m src.1 src.2 := by
  cases h with
  | lst h q => cases hs; exact ⟨trivial, fun _ => .lst _, fun st H Z1 ι1 g r _ => ⟨_, .inl ⟨_, rfl, rfl, SqL.of (r.zin _ _ (g.z _ _ h))⟩⟩, fun st H Z1 ι1 t g r _ => ⟨_, SqL.of (r.zin _ _ (g.z _ _ h)), q.mono g⟩⟩
  | tup h q => cases hs; exact ⟨trivial, fun _ => .tup _, fun st H Z1 ι1 g r _ => ⟨_, .inr (.inl ⟨_, rfl, rfl, same_sqt r.zin (same_sqt g.z h)⟩)⟩, fun st H Z1 ι1 t g r _ => ⟨_, same_sqt r.zin (same_sqt g.z h), q.mono g⟩⟩
  | str z =>
    cases hs
    refine ⟨trivial, fun t => .txt z t, fun st H Z1 ι1 g r _ => ⟨_, .inr (.inr ⟨z, rfl, rfl, rfl⟩)⟩, fun st H Z1 ι1 t g r _ => ⟨_, rfl, ?_⟩⟩
    dsimp only [signs]
    induction z.cps.toList with
    | nil => exact .nil
    | cons c l ih => exact .cons (.str _) ih
  | @ref n a h =>
    unfold seqOf at hs
    dsimp only at hs
    split at hs
    · rename_i l hl
      cases hs
      refine ⟨hl, fun _ => .lst a, fun st H Z1 ι1 g r hG => ?_, fun st H Z1 ι1 t g r hG => ?_⟩
      · obtain ⟨_, xs, hH, hq⟩ := r.ob n _ a hG (g.get h)
        exact ⟨xs, .inl ⟨a, rfl, rfl, SqL.of hH⟩⟩
      · obtain ⟨_, xs, hH, hq⟩ := r.ob n _ a hG (g.get h)
        exact ⟨xs, SqL.of hH, hq⟩
    · cases hs
  | _ => cases hs
def zipD (xs ys : List D) : List D := List.zipWith (fun a b => D.tup [a, b]) xs ys
def enumD (xs : List D) : List D := (List.range xs.length).zipWith (fun i x => D.tup [.int ((i : Nat) : Int), x]) xs
def zip? (s : Sto) : List D → Option Src
  | [x, y] => match seqOf s x, seqOf s y with
    | some a, some b => some (zipD a.1 b.1, fun s => a.2 s ∧ b.2 s)
    | _, _ => none
  | _ => none
def enum? (s : Sto) : List D → Option Src
  | [x] => (seqOf s x).map fun a => (enumD a.1, a.2)
  | _ => none
def miZip (a : MA) : MI := fun ρ s => bnd (a ρ s) fun ds s => ofO (zip? s ds) s
def miEnum (a : MA) : MI := fun ρ s => bnd (a ρ s) fun ds s => ofO (enum? s ds) s
theorem zipD_get {xs ys : List D} {i : Nat} {d : D} (h : (zipD xs ys)[i]? = some d) : ∃ a b, xs[i]? = some a ∧ ys[i]? = some b ∧ d = .tup [a, b] := by
  unfold zipD at h
  rw [List.getElem?_zipWith] at h
  cases e1 : xs[i]? with
  | none => rw [e1] at h; cases h
  | some a => cases e2 : ys[i]? with
    | none => rw [e1, e2] at h; cases h
    | some b => rw [e1, e2] at h; cases h; exact ⟨a, b, rfl, rfl, rfl⟩
theorem zipD_len (xs ys : List D) : (zipD xs ys).length = min xs.length ys.length := by simp [zipD]
theorem enumD_get {xs : List D} {i : Nat} {d : D} (h : (enumD xs)[i]? = some d) : ∃ a, xs[i]? = some a ∧ d = .tup [.int (i : Int), a] := by
  unfold enumD at h
  rw [List.getElem?_zipWith] at h
  cases e1 : (List.range xs.length)[i]? with
  | none => rw [e1] at h; cases h
  | some j => cases e2 : xs[i]? with
    | none => rw [e1, e2] at h; cases h
    | some b =>
      rw [e1, e2] at h
      cases h
      obtain ⟨h1, h2⟩ := List.getElem?_eq_some_iff.mp e1
      simp at h2
      subst h2
      exact ⟨b, rfl, rfl⟩
theorem enumD_len (xs : List D) : (enumD xs).length = xs.length := by simp [enumD]
section
variable {K : PySem.W.Frag} {Z : Hp} {ι : List Addr}
theorem walk_zipD {v u : V} {m1 m2 : Tok → Sk} {t1 t2 : Tok} {ds es : List D} {G1 G2 : Sto → Prop} (h1 : SrcR K Z ι v m1 ds G1) (h2 : SrcR K Z ι u m2 es G2) : WalkM K Z ι (ItZ K (m1 t1) (m2 t2)) (zipD ds es, fun s => G1 s ∧ G2 s) := fun i st H Z1 ι1 g r hG => by
  obtain ⟨xs, a1, q1⟩ := h1.at_ st H Z1 ι1 t1 g r hG.1
  obtain ⟨ys, a2, q2⟩ := h2.at_ st H Z1 ι1 t2 g r hG.2
  refine ⟨fun d hd => ?_, fun hi => ⟨xs, ys, a1, a2, by rw [show (zipD ds es, fun s => G1 s ∧ G2 s).1.length = (zipD ds es).length from rfl, zipD_len] at hi; rw [q1.length, q2.length]; exact hi⟩⟩
  obtain ⟨a, b, ha, hb, rfl⟩ := zipD_get hd
  obtain ⟨v, hv, rv⟩ := q1.get ha
  obtain ⟨u, hu, ru⟩ := q2.get hb
  refine ⟨⟨xs, ys, a1, a2, (List.getElem?_eq_some_iff.mp hv).1, (List.getElem?_eq_some_iff.mp hu).1⟩, fun x H' y => ?_⟩
  obtain ⟨T, x1, y1, rfl, hT, rfl, e1, e2⟩ := y
  have e1 := e1 xs a1
  have e2 := e2 ys a2
  rw [hv] at e1
  rw [hu] at e2
  cases e1
  cases e2
  obtain ⟨r2, g2⟩ := r.zone (o := .tup [v, u]) hT
  exact ⟨_, g2, r2, .tup (SqT.of upd_same) (.cons (rv.mono g2.toExt) (.cons (ru.mono g2.toExt) .nil))⟩
theorem walk_enumD {v : V} {m1 : Tok → Sk} {t1 : Tok} {ds : List D} {G1 : Sto → Prop} (h1 : SrcR K Z ι v m1 ds G1) : WalkM K Z ι (ItE K (m1 t1)) (enumD ds, G1) := fun i st H Z1 ι1 g r hG => by
  obtain ⟨xs, a1, q1⟩ := h1.at_ st H Z1 ι1 t1 g r hG
  refine ⟨fun d hd => ?_, fun hi => ⟨xs, a1, by rw [show (enumD ds, G1).1.length = (enumD ds).length from rfl, enumD_len] at hi; rw [q1.length]; exact hi⟩⟩
  obtain ⟨a, ha, rfl⟩ := enumD_get hd
  obtain ⟨v, hv, rv⟩ := q1.get ha
  refine ⟨⟨xs, a1, (List.getElem?_eq_some_iff.mp hv).1⟩, fun x H' y => ?_⟩
  obtain ⟨T, x1, rfl, hT, rfl, e1⟩ := y
  have e1 := e1 xs a1
  rw [hv] at e1
  cases e1
  obtain ⟨r2, g2⟩ := r.zone (o := .tup [.int (i : Nat), v]) hT
  exact ⟨_, g2, r2, .tup (SqT.of upd_same) (.cons (.int _) (.cons (rv.mono g2.toExt) .nil))⟩
end
section
variable {X : Cx} {W : WX} {e e2 : Expr} {ms : MA} {p pos tpos : Pos} {elts : List Expr} {kk : Nat}
theorem si_zip (hm : X.mg "zip" = none) (ha : SdA X W [e, e2] ms) (hg : Gl X "zip" := by rfl) (hs : starEach [e, e2] X.env = (false, eval e X.env) :: starEach [e2] X.env := by rfl) (hpl : (backTo pos (starEach [e2] X.env)).any (·.1) = false := by rfl) :
    SdI X W (.Tuple elts kk tpos) (.Call (.Name "zip" p) [e, e2] [] pos) (miZip ms) := by
  refine pi_imp (pi_zipM hg hm ha hs hpl) fun σ H R ⟨ρ, st, Z, ι, e, r, q⟩ => ?_
  refine rdG.mono (kont e r q) fun vs H1 ⟨st1, Z1, ι1, ds, g1, e1, r1, hv, q1⟩ => ?_
  cases hv with
  | nil => exact q1.elim
  | @cons v1 _ d1 _ h1 h2 => cases h2 with
    | nil => exact q1.elim
    | @cons v2 _ d2 _ h2 h3 => cases h3 with
      | cons _ _ => exact q1.elim
      | nil =>
        cases hx : seqOf st1 d1 with
        | none => simp [zip?, hx] at q1; exact q1.elim
        | some xs => cases hy : seqOf st1 d2 with
          | none => simp [zip?, hx, hy] at q1; exact q1.elim
          | some ys =>
            simp only [zip?, hx, hy, ofO_some] at q1
            obtain ⟨g1', m1, s1⟩ := src_of h1 r1 hx
            obtain ⟨g2', m2, s2⟩ := src_of h2 r1 hy
            obtain ⟨vs1, c1⟩ := s1.src st1 H1 Z1 ι1 (Ext.refl _ _) r1 g1'
            obtain ⟨vs2, c2⟩ := s2.src st1 H1 Z1 ι1 (Ext.refl _ _) r1 g2'
            exact ⟨v1, v2, vs1, vs2, m1, m2, rfl, c1, c2, fun t1 t2 => q1 _ H1 Z1 ι1 (Grow.refl _ _ _) r1 (walk_zipD s1 s2)⟩
theorem si_enum (hm : X.mg "enumerate" = none) (ha : SdA X W [e] ms) (hg : Gl X "enumerate" := by rfl) (hs : starEach [e] X.env = [(false, eval e X.env)] := by rfl) :
    SdI X W (.Tuple elts kk tpos) (.Call (.Name "enumerate" p) [e] [] pos) (miEnum ms) := by
  refine pi_imp (pi_enumM hg hm ha hs) fun σ H R ⟨ρ, st, Z, ι, e, r, q⟩ => ?_
  refine rdG.mono (kont e r q) fun vs H1 ⟨st1, Z1, ι1, ds, g1, e1, r1, hv, q1⟩ => ?_
  cases hv with
  | nil => exact q1.elim
  | @cons v1 _ d1 _ h1 h2 => cases h2 with
    | cons _ _ => exact q1.elim
    | nil =>
      cases hx : seqOf st1 d1 with
      | none => simp [enum?, hx] at q1; exact q1.elim
      | some xs =>
        simp only [enum?, hx, Option.map_some, ofO_some] at q1
        obtain ⟨g1', m1, s1⟩ := src_of h1 r1 hx
        obtain ⟨vs1, c1⟩ := s1.src st1 H1 Z1 ι1 (Ext.refl _ _) r1 g1'
        exact ⟨v1, vs1, m1, rfl, c1, fun t => q1 _ H1 Z1 ι1 (Grow.refl _ _ _) r1 (walk_enumD s1)⟩
/-- what changes no more -/
def mFrz (a : ME) : ME := fun ρ s => bnd (a ρ s) fun d s => match d with
  | .ref n => match s[n]? with
    | some (.lst l) => some (.ok (.lst l) (s.set n .gone))
    | _ => none
  | _ => none
theorem sd_frz {me : ME} (h : Sd X W e me) : Sd X W e (mFrz me) := by
  refine pe_imp h fun σ H Q ⟨ρ, st, Z, ι, en, r, q⟩ => ?_
  refine rdG.mono (kont en r q) fun v H1 ⟨st1, Z1, ι1, d, g1, e1, r1, rv, q1⟩ => ?_
  cases rv with
  | @ref n a h =>
    cases hs : st1[n]? with
    | none => simp only [hs] at q1; exact q1.elim
    | some o => cases o with
      | lst l =>
        simp only [hs] at q1
        obtain ⟨a', Z', ha, g, r2, rp⟩ := r1.freeze hs
        rw [h] at ha
        cases ha
        exact q1 _ H1 Z' ι1 g r2 rp
      | _ => simp only [hs] at q1; exact q1.elim
  | _ => exact q1.elim
end
end MP

set_option Elab.async false
set_option linter.all false
set_option maxRecDepth 100000
set_option maxHeartbeats 4000000
/-! MP7: operators, subscripts, slices, built-in functions and methods -/
namespace MP
open PySem L2

/-! ### plain data -/
mutual
def D.py : D → Option PyData
  | .non => some .none
  | .bl b => some (.bool b)
  | .int i => some (.int i)
  | .str s => some (.str s)
  | .lst l => (pyL l).map .list
  | .tup l => (pyL l).map .tuple
  | _ => none
def pyL : List D → Option (List PyData)
  | [] => some []
  | d :: ds => match d.py, pyL ds with
    | some p, some ps => some (p :: ps)
    | _, _ => none
end
/-- a box list is read, too -/
def pyS (s : Sto) : D → Option PyData
  | .ref n => match s[n]? with
    | some (.lst l) => (pyL l).map .list
    | _ => none
  | d => d.py
section
variable {K : PySem.W.Frag} {Z H : Hp} {ι : List Addr}
theorem pyL_cons {d : D} {ds : List D} {ps : List PyData} (h : pyL (d :: ds) = some ps) : ∃ p qs, d.py = some p ∧ pyL ds = some qs ∧ ps = p :: qs := by
  unfold pyL at h
  cases h1 : d.py with
  | none => rw [h1] at h; cases h
  | some p => cases h2 : pyL ds with
    | none => rw [h1, h2] at h; cases h
    | some qs => rw [h1, h2] at h; cases h; exact ⟨p, qs, rfl, rfl, rfl⟩
mutual
theorem dp_of (e : Same Z H) : ∀ {v : V} {d : D} {p : PyData}, Rp K Z ι v d → d.py = some p → Dp K H v p
  | _, _, _, .non, h => by cases h; exact .non
  | _, _, _, .bl b, h => by cases h; exact .bl b
  | _, _, _, .int i, h => by cases h; exact .int i
  | _, _, _, .str s, h => by cases h; exact .str s
  | _, .lst ds, _, .lst hz r, h => by
    unfold D.py at h
    cases h2 : pyL ds with
    | none => rw [h2] at h; cases h
    | some qs => rw [h2] at h; cases h; exact .lst (SqL.of (e _ _ hz)) (dpl_of e r h2)
  | _, .tup ds, _, .tup hz r, h => by
    unfold D.py at h
    cases h2 : pyL ds with
    | none => rw [h2] at h; cases h
    | some qs => rw [h2] at h; cases h; exact .tup (same_sqt e hz) (dpl_of e r h2)
  | _, _, _, .dct _ _ _, h => by unfold D.py at h; cases h
  | _, _, _, .ref _, h => by unfold D.py at h; cases h
  | _, _, _, .scr _, h => by unfold D.py at h; cases h
theorem dpl_of (e : Same Z H) : ∀ {vs : List V} {ds : List D} {ps : List PyData}, RpL K Z ι vs ds → pyL ds = some ps → DpAll K H vs ps
  | _, _, _, .nil, h => by unfold pyL at h; cases h; exact .nil
  | _, _, _, .cons r rs, h => by
    obtain ⟨p, qs, h1, h2, rfl⟩ := pyL_cons h
    exact .cons (dp_of e r h1) (dpl_of e rs h2)
end
theorem dpS_of {st : Sto} (r : Rel K st H Z ι) {v : V} {d : D} {p : PyData} (h : Rp K Z ι v d) (hp : pyS st d = some p) : Dp K H v p := by
  cases h with
  | @ref n a hn =>
    unfold pyS at hp
    dsimp only at hp
    split at hp
    · rename_i l hl
      obtain ⟨_, xs, hH, hr⟩ := r.ob n _ a hl hn
      cases h2 : pyL l with
      | none => rw [h2] at hp; cases hp
      | some qs => rw [h2] at hp; cases hp; exact .lst (SqL.of hH) (dpl_of r.zin hr h2)
    · cases hp
  | non => exact dp_of (ι := ι) r.zin .non hp
  | bl b => exact dp_of (ι := ι) r.zin (.bl b) hp
  | int i => exact dp_of (ι := ι) r.zin (.int i) hp
  | str s => exact dp_of (ι := ι) r.zin (.str s) hp
  | lst h q => exact dp_of r.zin (.lst h q) hp
  | tup h q => exact dp_of r.zin (.tup h q) hp
  | dct a b c => exact dp_of (ι := ι) r.zin (.dct a b c) hp
  | scr a => exact dp_of (ι := ι) r.zin (.scr a) hp
end
def eqD (st : Sto) (x y : D) : Option Bool := match pyS st x, pyS st y with
  | some a, some b => if SeqAt.shaped a && SeqAt.shaped b then some (PyData.eqv a b) else none
  | _, _ => none
def fEq (st : Sto) (x y : D) : Option D := (eqD st x y).map .bl
def fNe (st : Sto) (x y : D) : Option D := (eqD st x y).map fun b => .bl !b
section
variable {X : Cx}
theorem eqD_inv {st : Sto} {x y : D} {b : Bool} (h : eqD st x y = some b) : ∃ p q, pyS st x = some p ∧ pyS st y = some q ∧ SeqAt.shaped p = true ∧ SeqAt.shaped q = true ∧ b = PyData.eqv p q := by
  unfold eqD at h
  split at h
  · rename_i p q h1 h2
    split at h
    · rename_i hs
      cases h
      rw [Bool.and_eq_true] at hs
      exact ⟨p, q, h1, h2, hs.1, hs.2, rfl⟩
    · cases h
  · cases h
theorem os_eq {K : PySem.W.Frag} : OpS K fEq (rEqD K) := fun st x y d v u H Z ι Q hf r hx hy k => by
  unfold fEq at hf
  cases hq : eqD st x y with
  | none => rw [hq] at hf; cases hf
  | some b =>
    rw [hq] at hf
    cases hf
    obtain ⟨p, q, h1, h2, s1, s2, rfl⟩ := eqD_inv hq
    exact ⟨p, q, dpS_of r hx h1, dpS_of r hy h2, s1, s2, k _ H Z (Grow.refl _ _ _) r (.bl _)⟩
theorem os_ne {K : PySem.W.Frag} : OpS K fNe (rNeD K) := fun st x y d v u H Z ι Q hf r hx hy k => by
  unfold fNe at hf
  cases hq : eqD st x y with
  | none => rw [hq] at hf; cases hf
  | some b =>
    rw [hq] at hf
    cases hf
    obtain ⟨p, q, h1, h2, s1, s2, rfl⟩ := eqD_inv hq
    exact ⟨p, q, dpS_of r hx h1, dpS_of r hy h2, s1, s2, k _ H Z (Grow.refl _ _ _) r (.bl _)⟩
/-! ### numbers -/
def fI (g : Int → Int → D) (c : Int → Int → Bool) : Sto → D → D → Option D := fun _ x y => match x, y with
  | .int i, .int j => if c i j = true then some (g i j) else none
  | _, _ => none
def rIc (C : Int → Int → Prop) (g : Int → Int → V) : R2 := rI C g
theorem os_int {K : PySem.W.Frag} {g : Int → Int → D} {gv : Int → Int → V} {c : Int → Int → Bool} {C : Int → Int → Prop} (hc : ∀ i j, c i j = true → C i j) (hg : ∀ Z ι i j, Rp K Z ι (gv i j) (g i j)) : OpS K (fI g c) (rI C gv) := fun st x y d v u H Z ι Q hf r hx hy k => by
  unfold fI at hf
  cases hx with
  | int i => cases hy with
    | int j =>
      dsimp only at hf
      split at hf
      · rename_i h
        cases hf
        exact ⟨i, j, rfl, rfl, hc i j h, k _ H Z (Grow.refl _ _ _) r (hg Z ι i j)⟩
      · cases hf
    | _ => cases hf
  | _ => cases hf
theorem os_int0 {K : PySem.W.Frag} {g : Int → Int → D} {gv : Int → Int → V} (hg : ∀ Z ι i j, Rp K Z ι (gv i j) (g i j)) : OpS K (fI g fun _ _ => true) (rI0 gv) := fun st x y d v u H Z ι Q hf r hx hy k => by
  obtain ⟨i, j, e1, e2, _, q⟩ := os_int (C := fun _ _ => True) (fun _ _ _ => trivial) hg st x y d v u H Z ι Q hf r hx hy k
  exact ⟨i, j, e1, e2, q⟩
def cMul (i j : Int) : Bool := (decide (-(2 ^ 64) < i) && decide (i < 2 ^ 64)) || (decide (-(2 ^ 64) < j) && decide (j < 2 ^ 64))
def cPow (i j : Int) : Bool := decide (0 ≤ j) && decide (j ≤ 1000000) && decide (i.natAbs < 2 ^ 64)
def cDiv (i j : Int) : Bool := decide (0 < j) && decide (j < 1073741824)
def fSub := fI (fun i j => .int (i - j)) fun _ _ => true
def fMul := fI (fun i j => .int (i * j)) cMul
def fDiv := fI (fun i j => .int (i / j)) cDiv
def fMod := fI (fun i j => .int (i % j)) fun _ j => decide (0 < j)
def fPow := fI (fun i j => .int (i ^ j.toNat)) cPow
def fLt := fI (fun i j => .bl (decide (i < j))) fun _ _ => true
def fLe := fI (fun i j => .bl (decide (i ≤ j))) fun _ _ => true
def fGt := fI (fun i j => .bl (decide (j < i))) fun _ _ => true
def fGe := fI (fun i j => .bl (decide (j ≤ i))) fun _ _ => true
theorem os_sub {K : PySem.W.Frag} : OpS K fSub (rI0 fun i j => .int (i - j)) := os_int0 fun _ _ _ _ => .int _
theorem os_mul {K : PySem.W.Frag} : OpS K fMul (rI CMul fun i j => .int (i * j)) := os_int (fun i j h => by simpa [cMul, CMul] using h) fun _ _ _ _ => .int _
theorem os_div {K : PySem.W.Frag} : OpS K fDiv (rI CDiv fun i j => .int (i / j)) := os_int (fun i j h => by simpa [cDiv, CDiv] using h) fun _ _ _ _ => .int _
theorem os_mod {K : PySem.W.Frag} : OpS K fMod (rI (fun _ j => 0 < j) fun i j => .int (i % j)) := os_int (fun i j h => by simpa using h) fun _ _ _ _ => .int _
theorem os_pow {K : PySem.W.Frag} : OpS K fPow (rI CPow fun i j => .int (i ^ j.toNat)) := os_int (fun i j h => by simpa [cPow, CPow, and_assoc] using h) fun _ _ _ _ => .int _
theorem os_lt {K : PySem.W.Frag} : OpS K fLt (rI0 fun i j => .bl (decide (i < j))) := os_int0 fun _ _ _ _ => .bl _
theorem os_le {K : PySem.W.Frag} : OpS K fLe (rI0 fun i j => .bl (decide (i ≤ j))) := os_int0 fun _ _ _ _ => .bl _
theorem os_gt {K : PySem.W.Frag} : OpS K fGt (rI0 fun i j => .bl (decide (j < i))) := os_int0 fun _ _ _ _ => .bl _
theorem os_ge {K : PySem.W.Frag} : OpS K fGe (rI0 fun i j => .bl (decide (j ≤ i))) := os_int0 fun _ _ _ _ => .bl _
def fNeg : Sto → D → Option D := fun _ x => match x with
  | .int i => some (.int (-i))
  | _ => none
theorem us_neg {K : PySem.W.Frag} : UnS K fNeg (rU fun i => .int (-i)) := fun st x d v H Z ι Q hf r hx k => by
  cases hx with
  | int i => cases hf; exact ⟨i, rfl, k _ H Z (Grow.refl _ _ _) r (.int _)⟩
  | _ => cases hf
/-! ### + -/
/-- the items of a list -/
def lst? (s : Sto) : D → Option (List D)
  | .lst l => some l
  | .ref n => match s[n]? with
    | some (.lst l) => some l
    | _ => none
  | _ => none
theorem lst_sq {K : PySem.W.Frag} {st : Sto} {H Z : Hp} {ι : List Addr} {v : V} {d : D} {ds : List D} (r : Rel K st H Z ι) (h : Rp K Z ι v d) (hi : lst? st d = some ds) : ∃ a xs, v = .ref a ∧ H a = some (.lst xs) ∧ RpL K Z ι xs ds := by
  cases h with
  | lst h q => cases hi; exact ⟨_, _, rfl, r.zin _ _ h, q⟩
  | @ref n a h =>
    unfold lst? at hi
    dsimp only at hi
    split at hi
    · rename_i l hl
      cases hi
      obtain ⟨_, xs, h2, h3⟩ := r.ob n _ a hl h
      exact ⟨a, xs, rfl, h2, h3⟩
    · cases hi
  | _ => cases hi
def fAdd (s : Sto) (x y : D) : Option D := match x, y with
  | .int i, .int j => some (.int (i + j))
  | .str a, .str b => if a.length + b.length ≤ 16777216 then some (.str (a ++ b)) else none
  | .tup a, .tup b => if a.length + b.length ≤ 16777216 then some (.tup (a ++ b)) else none
  | x, y => match lst? s x, lst? s y with
    | some a, some b => if a.length + b.length ≤ 16777216 then some (.lst (a ++ b)) else none
    | _, _ => none
def rAddM (K : PySem.W.Frag) : R2 := fun x y H Q => (rI0 fun i j => .int (i + j)) x y H Q ∨ (∃ i j, x = .str i ∧ y = .str j ∧ i.length + j.length ≤ sizeLine ∧ Q (.str (i ++ j)) H) ∨ rCatA K x y H Q ∨ rCat x y H Q
theorem op_addM : OpR X (binaryOp .Add) (rAddM X.K) := op_add.or (op_add_str.or (op_catA.or op_cat))
theorem add_lists {K : PySem.W.Frag} {st : Sto} {H Z : Hp} {ι : List Addr} {v u : V} {x y d : D} {Q : VK} (r : Rel K st H Z ι) (hx : Rp K Z ι v x) (hy : Rp K Z ι u y)
    (hf : (match lst? st x, lst? st y with
    | some a, some b => if a.length + b.length ≤ 16777216 then some (D.lst (a ++ b)) else none
    | _, _ => none) = some d) (k : ∀ z H' Z', Grow Z ι H Z' ι H' → Rel K st H' Z' ι → Rp K Z' ι z d → Q z H') : rCat v u H Q := by
  cases h1 : lst? st x with
  | none => rw [h1] at hf; cases hf
  | some a => cases h2 : lst? st y with
    | none => rw [h1, h2] at hf; cases hf
    | some b =>
      rw [h1, h2] at hf
      dsimp only at hf
      split at hf
      · rename_i hl
        cases hf
        obtain ⟨p, xs, rfl, hp, qp⟩ := lst_sq r hx h1
        obtain ⟨q, ys, rfl, hq, qq⟩ := lst_sq r hy h2
        refine ⟨p, q, xs, ys, rfl, rfl, hp, hq, by rw [qp.length, qq.length, ← sline]; exact hl, fun n hn => ?_⟩
        obtain ⟨r2, g2⟩ := r.zone (o := .lst (xs ++ ys)) hn
        exact k _ _ _ g2 r2 (.lst upd_same ((qp.append qq).mono g2.toExt))
      · cases hf
theorem os_add {K : PySem.W.Frag} : OpS K fAdd (rAddM K) := fun st x y d v u H Z ι Q hf r hx hy k => by
  cases hx with
  | int i => cases hy with
    | int j => cases hf; exact .inl ⟨i, j, rfl, rfl, k _ H Z (Grow.refl _ _ _) r (.int _)⟩
    | _ => cases hf
  | str a => cases hy with
    | str b =>
      unfold fAdd at hf
      dsimp only at hf
      split at hf
      · rename_i hl
        cases hf
        exact .inr (.inl ⟨a, b, rfl, rfl, by rw [← sline]; exact hl, k _ H Z (Grow.refl _ _ _) r (.str _)⟩)
      · cases hf
    | _ => cases hf
  | @tup a xs ds h q => cases hy with
    | @tup b ys es h' q' =>
      unfold fAdd at hf
      dsimp only at hf
      split at hf
      · rename_i hl
        cases hf
        refine .inr (.inr (.inl ⟨a, b, xs, ys, rfl, rfl, same_sqt r.zin h, same_sqt r.zin h', by rw [q.length, q'.length, ← sline]; exact hl, fun e => ?_, fun e1 e2 => ?_, fun e1 e2 p hp => ?_⟩))
        · subst e
          cases q
          exact k _ H Z (Grow.refl _ _ _) r (.tup h' q')
        · subst e2
          cases q'
          rw [List.append_nil] at k
          exact k _ H Z (Grow.refl _ _ _) r (.tup h q)
        · obtain ⟨r2, g2⟩ := r.zone (o := .tup (xs ++ ys)) hp
          exact k _ _ _ g2 r2 (.tup (SqT.of upd_same) ((q.append q').mono g2.toExt))
      · cases hf
    | _ => cases hf
  | lst h q => exact .inr (.inr (.inr (add_lists r (.lst h q) hy (by cases hy <;> exact hf) k)))
  | ref h => exact .inr (.inr (.inr (add_lists r (.ref h) hy (by cases hy <;> exact hf) k)))
  | non => cases hf
  | bl b => cases hf
  | dct _ _ _ => cases hf
  | scr _ => cases hf
/-! ### subscripts -/
def fIx (s : Sto) (x y : D) : Option D := match y with
  | .int i => match x with
    | .tup l => atI l i
    | .str z => if z.length ≤ 16777216 then (atI z.cps.toList i).map fun c => .str ⟨#[c]⟩ else none
    | x => (lst? s x).bind fun l => atI l i
  | _ => none
theorem rpl_at {K : PySem.W.Frag} {Z : Hp} {ι : List Addr} {xs : List V} {ds : List D} {i : Int} {d : D} (q : RpL K Z ι xs ds) (h : atI ds i = some d) : ∃ v, atI xs i = some v ∧ Rp K Z ι v d := by
  unfold atI at h ⊢
  rw [q.length]
  cases e : ixN ds.length i with
  | none => rw [e] at h; cases h
  | some j =>
    rw [e] at h
    exact q.get h
theorem os_ix {K : PySem.W.Frag} : OpS K fIx (rIx K) := fun st x y d v u H Z ι Q hf r hx hy k => by
  cases hy with
  | int i =>
    have lists : ∀ {x : D} {v : V}, Rp K Z ι v x → ((lst? st x).bind fun l => atI l i) = some d → rIxL K v (.int i) H Q := fun {x v} hx hf => by
      cases h1 : lst? st x with
      | none => rw [h1] at hf; cases hf
      | some l =>
        rw [h1] at hf
        obtain ⟨p, xs, rfl, hp, qp⟩ := lst_sq r hx h1
        obtain ⟨w, hw, rw'⟩ := rpl_at qp (show atI l i = some d from hf)
        exact ⟨p, xs, i, w, rfl, rfl, SqL.of hp, hw, k _ H Z (Grow.refl _ _ _) r rw'⟩
    cases hx with
    | @tup a xs ds h q =>
      obtain ⟨w, hw, rw'⟩ := rpl_at q (show atI ds i = some d from hf)
      exact .inr (.inl ⟨a, xs, i, w, rfl, rfl, same_sqt r.zin h, hw, k _ H Z (Grow.refl _ _ _) r rw'⟩)
    | str z =>
      unfold fIx at hf
      dsimp only at hf
      split at hf
      · rename_i hl
        cases hc : atI z.cps.toList i with
        | none => rw [hc] at hf; cases hf
        | some c => rw [hc] at hf; cases hf; exact .inr (.inr ⟨z, i, c, rfl, rfl, by rw [← sline]; exact hl, hc, k _ H Z (Grow.refl _ _ _) r (.str _)⟩)
      · cases hf
    | lst h q => exact .inl (lists (.lst h q) hf)
    | ref h => exact .inl (lists (.ref h) hf)
    | non => cases hf
    | bl b => cases hf
    | int j => cases hf
    | dct _ _ _ => cases hf
    | scr _ => cases hf
  | _ => cases hf
end
end MP

set_option Elab.async false
set_option linter.all false
set_option maxRecDepth 100000
set_option maxHeartbeats 4000000
/-! MP8: slices, in, built-in functions, methods of lists -/
namespace MP
open PySem L2

/-! ### slices -/
abbrev MO := Env → Sto → RO (Option Int)
abbrev rdO (K : PySem.W.Frag) (W : WX) (m : MO) : TO := rdG K W (fun _ _ b a => b = a) m
abbrev SdO (X : Cx) (W : WX) (e : Option Expr) (m : MO) : Prop := PO X e (rdO X.K W m)
theorem po_imp {X : Cx} {e : Option Expr} {t t' : TO} (h : PO X e t) (f : ∀ σ H Q, t' σ H Q → t σ H Q) : PO X e t' := ⟨fun pins s σ H Q I q => h.run pins s σ H Q I (f σ H Q q)⟩
def moN : MO := fun _ s => some (.ok none s)
def moS (a : ME) : MO := fun ρ s => bnd (a ρ s) fun d s => match d with
  | .int i => some (.ok (some i) s)
  | _ => none
def cutD (ds : List D) (lo hi : Option Int) : List D := (ds.drop (HT.sIx ds.length 0 lo)).take (HT.sIx ds.length ds.length hi - HT.sIx ds.length 0 lo)
def fSl (s : Sto) (x : D) (lo hi : Option Int) : Option D := match x with
  | .tup l => some (.tup (cutD l lo hi))
  | .str z => if z.length ≤ 16777216 then some (.str (cutS z lo hi)) else none
  | x => (lst? s x).map fun l => .lst (cutD l lo hi)
def mSl (a : ME) (lo hi : MO) : ME := fun ρ s => bnd (a ρ s) fun x s => bnd (lo ρ s) fun l s => bnd (hi ρ s) fun h s => ofO (fSl s x l h) s
theorem cut_rp {K : PySem.W.Frag} {Z : Hp} {ι : List Addr} {xs : List V} {ds : List D} {lo hi : Option Int} (q : RpL K Z ι xs ds) : RpL K Z ι (cutV xs lo hi) (cutD ds lo hi) := by
  unfold cutV cutD
  rw [q.length]
  exact (q.drop _).take _
section
variable {X : Cx} {W : WX} {e : Expr} {lo hi : Option Expr} {pos p2 : Pos} {me : ME} {ml mh : MO}
theorem so_none : SdO X W none moN := po_imp po_none fun σ H Q ⟨ρ, st, Z, ι, e, r, p⟩ => p none H Z ι (Grow.refl _ _ _) r rfl
theorem so_some (h : Sd X W e me) : SdO X W (some e) (moS me) := by
  refine po_imp (po_some h) fun σ H Q ⟨ρ, st, Z, ι, e, r, p⟩ => ?_
  refine rdG.mono (kont e r p) fun v H1 ⟨st1, Z1, ι1, x, g1, e1, r1, rx, p1⟩ => ?_
  cases rx with
  | int i => exact ⟨i, rfl, p1 _ H1 Z1 ι1 (Grow.refl _ _ _) r1 rfl⟩
  | _ => exact p1.elim
def rSlM (K : PySem.W.Frag) : V → Option Int → Option Int → Hp → VK → Prop := fun x lo hi H Q => rSlL K x lo hi H Q ∨ rSlA K x lo hi H Q ∨ rSlS x lo hi H Q
theorem sl_M : SlR X (rSlM X.K) := SlR.or sl_list (SlR.or sl_tupA sl_str)
theorem cut_whole {ds : List D} {lo hi : Option Int} (h : HT.sIx ds.length 0 lo = 0 ∧ HT.sIx ds.length ds.length hi = ds.length) : cutD ds lo hi = ds := by
  unfold cutD
  rw [h.1, h.2]
  simp
theorem sl_sound {K : PySem.W.Frag} {st : Sto} {x d : D} {v : V} {H Z : Hp} {ι : List Addr} {Q : VK} {lo hi : Option Int} (hf : fSl st x lo hi = some d) (r : Rel K st H Z ι) (hx : Rp K Z ι v x)
    (k : ∀ z H' Z', Grow Z ι H Z' ι H' → Rel K st H' Z' ι → Rp K Z' ι z d → Q z H') : rSlM K v lo hi H Q := by
  have lists : ∀ {x : D} {v : V}, Rp K Z ι v x → ((lst? st x).map fun l => D.lst (cutD l lo hi)) = some d → rSlL K v lo hi H Q := fun {x v} hx hf => by
    cases h1 : lst? st x with
    | none => rw [h1] at hf; cases hf
    | some l =>
      rw [h1] at hf
      cases hf
      obtain ⟨p, xs, rfl, hp, qp⟩ := lst_sq r hx h1
      refine ⟨p, xs, rfl, SqL.of hp, fun n hn => ?_⟩
      obtain ⟨r2, g2⟩ := r.zone (o := .lst (cutV xs lo hi)) hn
      exact k _ _ _ g2 r2 (.lst upd_same ((cut_rp qp).mono g2.toExt))
  cases hx with
  | @tup a xs ds h q =>
    cases hf
    refine .inr (.inl ⟨a, xs, rfl, same_sqt r.zin h, fun hw => ?_, fun hw n hn => ?_⟩)
    · rw [q.length] at hw
      rw [cut_whole hw] at k
      exact k _ H Z (Grow.refl _ _ _) r (.tup h q)
    · obtain ⟨r2, g2⟩ := r.zone (o := .tup (cutV xs lo hi)) hn
      exact k _ _ _ g2 r2 (.tup (SqT.of upd_same) ((cut_rp q).mono g2.toExt))
  | str z =>
    unfold fSl at hf
    dsimp only at hf
    split at hf
    · rename_i hl
      cases hf
      exact .inr (.inr ⟨z, rfl, by rw [← sline]; exact hl, k _ H Z (Grow.refl _ _ _) r (.str _)⟩)
    · cases hf
  | lst h q => exact .inl (lists (.lst h q) hf)
  | ref h => exact .inl (lists (.ref h) hf)
  | non => cases hf
  | bl b => cases hf
  | int j => cases hf
  | dct _ _ _ => cases hf
  | scr _ => cases hf
theorem sd_slice (he : Sd X W e me) (hl : SdO X W lo ml) (hh : SdO X W hi mh) : Sd X W (.Subscript e (.Slice lo hi none p2) pos) (mSl me ml mh) := by
  refine pe_imp (pe_slice sl_M he hl hh) fun σ H Q ⟨ρ, st, Z, ι, e, r, p⟩ => ?_
  refine rdG.mono (kont e r p) fun v H1 ⟨st1, Z1, ι1, x, g1, e1, r1, rx, p1⟩ => ?_
  refine rdG.mono (kont e1 r1 p1) fun l H2 ⟨st2, Z2, ι2, l', g2, e2, r2, hl, p2⟩ => ?_
  refine rdG.mono (kont e2 r2 p2) fun h H3 ⟨st3, Z3, ι3, h', g3, e3, r3, hh, p3⟩ => ?_
  cases (show l = l' from hl)
  cases (show h = h' from hh)
  cases hf : fSl st3 x l h with
  | none => rw [hf] at p3; exact p3.elim
  | some d => rw [hf] at p3; exact sl_sound hf r3 ((rx.mono g2.toExt).mono g3.toExt) fun z H' Z' g r q => p3 z H' Z' ι3 g r q
end
/-! ### in -/
def flatD : D → Bool
  | .non => true
  | .bl _ => true
  | .int _ => true
  | .str _ => true
  | _ => false
def eqF : D → D → Bool
  | .non, .non => true
  | .bl a, .bl b => a == b
  | .bl a, .int b => (if a then 1 else 0) == b
  | .int a, .bl b => a == (if b then 1 else 0)
  | .int a, .int b => a == b
  | .str a, .str b => a == b
  | _, _ => false
def inF (x : D) (ds : List D) : Bool := ds.any fun y => eqF y x
def in? (s : Sto) (x y : D) : Option Bool := match y with
  | .str z => match x with
    | .str w => match w.cps.toList with
      | [c] => some (decide (c ∈ z.cps.toList))
      | _ => none
    | _ => none
  | y => match items? s y with
    | some ds => if flatD x && ds.all flatD then some (inF x ds) else none
    | none => none
def fIn (s : Sto) (x y : D) : Option D := (in? s x y).map .bl
def fNotIn (s : Sto) (x y : D) : Option D := (in? s x y).map fun b => .bl !b
section
variable {K : PySem.W.Frag} {Z : Hp} {ι : List Addr}
theorem flat_rp {v : V} {d : D} (h : Rp K Z ι v d) (f : flatD d = true) : flatV v = true := by cases h <;> first | rfl | cases f
theorem eqF_rp {v u : V} {x y : D} (h : Rp K Z ι v x) (h' : Rp K Z ι u y) (f : flatD x = true) (f' : flatD y = true) : eqV v u = eqF x y := by
  cases h <;> first | (cases f; done) | (cases h' <;> first | (cases f'; done) | rfl)
theorem all_flat : ∀ {xs : List V} {ds : List D}, RpL K Z ι xs ds → ds.all flatD = true → xs.all flatV = true
  | _, _, .nil, _ => rfl
  | _, _, .cons h q, f => by
    rw [List.all_cons, Bool.and_eq_true] at f ⊢
    exact ⟨flat_rp h f.1, all_flat q f.2⟩
theorem in_rp {v : V} {x : D} (hx : Rp K Z ι v x) (f : flatD x = true) : ∀ {xs : List V} {ds : List D}, RpL K Z ι xs ds → ds.all flatD = true → inV v xs = inF x ds
  | _, _, .nil, _ => rfl
  | _, _, .cons h q, g => by
    rw [List.all_cons, Bool.and_eq_true] at g
    unfold inV inF
    rw [List.any_cons, List.any_cons, eqF_rp h hx g.1 f]
    have ih := in_rp hx f q g.2
    unfold inV inF at ih
    rw [ih]
end
def rInM (K : PySem.W.Frag) (neg : Bool) : R2 := fun x y H Q => rIn K neg x y H Q ∨ ∃ (c : Nat) (z : Str), x = .str ⟨#[c]⟩ ∧ y = .str z ∧ Q (.bl (if neg then !decide (c ∈ z.cps.toList) else decide (c ∈ z.cps.toList))) H
theorem op_inM {X : Cx} : OpR X (compareOp .In) (rInM X.K false) := op_in_seq.or op_in_sign
theorem op_notInM {X : Cx} : OpR X (compareOp .NotIn) (rInM X.K true) := op_notIn_seq.or op_notIn_sign
theorem in_sound {K : PySem.W.Frag} {neg b : Bool} {st : Sto} {x y : D} {v u : V} {H Z : Hp} {ι : List Addr} {Q : VK} (hf : in? st x y = some b) (r : Rel K st H Z ι) (hx : Rp K Z ι v x) (hy : Rp K Z ι u y)
    (k : ∀ z H' Z', Grow Z ι H Z' ι H' → Rel K st H' Z' ι → Rp K Z' ι z (.bl (if neg then !b else b)) → Q z H') : rInM K neg v u H Q := by
  have seq : (match items? st y with
    | some ds => if flatD x && ds.all flatD then some (inF x ds) else none
    | none => none) = some b → rIn K neg v u H Q := fun hf => by
    cases hi : items? st y with
    | none => rw [hi] at hf; cases hf
    | some ds =>
      rw [hi] at hf
      dsimp only at hf
      split at hf
      · rename_i hfl
        rw [Bool.and_eq_true] at hfl
        cases hf
        obtain ⟨a, xs, rfl, hq, hr⟩ := items_sq r hy hi
        refine ⟨a, xs, rfl, ?_, flat_rp hx hfl.1, all_flat hr hfl.2, ?_⟩
        · rcases hq with q | q
          · exact .inr q
          · exact .inl (SqL.of q)
        · rw [in_rp hx hfl.1 hr hfl.2]
          exact k _ H Z (Grow.refl _ _ _) r (.bl _)
      · cases hf
  cases hy with
  | str z => cases hx with
    | str w =>
      unfold in? at hf
      dsimp only at hf
      split at hf
      · rename_i c hc
        cases hf
        have e : w = ⟨#[c]⟩ := by
          obtain ⟨a⟩ := w
          have h2 : a = #[c] := by apply Array.toList_inj.mp; exact hc
          rw [h2]
        subst e
        exact .inr ⟨c, z, rfl, rfl, k _ H Z (Grow.refl _ _ _) r (.bl _)⟩
      · cases hf
    | _ => cases hf
  | _ => exact .inl (seq hf)
theorem os_in {K : PySem.W.Frag} : OpS K fIn (rInM K false) := fun st x y d v u H Z ι Q hf r hx hy k => by
  unfold fIn at hf
  cases h : in? st x y with
  | none => rw [h] at hf; cases hf
  | some b => rw [h] at hf; cases hf; exact in_sound (neg := false) h r hx hy k
theorem os_notIn {K : PySem.W.Frag} : OpS K fNotIn (rInM K true) := fun st x y d v u H Z ι Q hf r hx hy k => by
  unfold fNotIn at hf
  cases h : in? st x y with
  | none => rw [h] at hf; cases hf
  | some b => rw [h] at hf; cases hf; exact in_sound (neg := true) h r hx hy k
/-- is None -/
def isN : D → Bool
  | .non => true
  | _ => false
def fIsN : Sto → D → D → Option D := fun _ x y => match y with
  | .non => some (.bl (isN x))
  | _ => none
def fNotN : Sto → D → D → Option D := fun _ x y => match y with
  | .non => some (.bl (!isN x))
  | _ => none
theorem isN_rp {K : PySem.W.Frag} {Z : Hp} {ι : List Addr} {v : V} {d : D} (h : Rp K Z ι v d) : decide (v = .non) = isN d := by cases h <;> rfl
theorem os_isN {K : PySem.W.Frag} : OpS K fIsN (fun x y H Q => y = .non ∧ Q (.bl (decide (x = .non))) H) := fun st x y d v u H Z ι Q hf r hx hy k => by
  cases hy with
  | non => cases hf; exact ⟨rfl, by rw [isN_rp hx]; exact k _ H Z (Grow.refl _ _ _) r (.bl _)⟩
  | _ => cases hf
theorem os_notN {K : PySem.W.Frag} : OpS K fNotN (fun x y H Q => y = .non ∧ Q (.bl (!decide (x = .non))) H) := fun st x y d v u H Z ι Q hf r hx hy k => by
  cases hy with
  | non => cases hf; exact ⟨rfl, by rw [isN_rp hx]; exact k _ H Z (Grow.refl _ _ _) r (.bl _)⟩
  | _ => cases hf
/-! ### chains -/
def cI (c : Int → Int → Bool) : Sto → D → D → Option Bool := fun _ x y => match x, y with
  | .int i, .int j => some (c i j)
  | _, _ => none
theorem sd_chain {X : Cx} {W : WX} {a b c : Expr} {ma mb mc : ME} {op op' : CmpOp} {f f' : Int → Int → Bool} {pos : Pos} (ho : OpR X (compareOp op) (rI0 fun i j => .bl (f i j))) (ho' : OpR X (compareOp op') (rI0 fun i j => .bl (f' i j))) (ha : Sd X W a ma) (hb : Sd X W b mb) (hc : Sd X W c mc) (hm : lastMarks [op, op'] [b, c] = false := by with_unfolding_all rfl) :
    Sd X W (.Compare a [op, op'] [b, c] pos) (mChain (cI f) (cI f') ma mb mc) := by
  refine pe_imp (pe_chain ho ho' ha hb hc hm) fun σ H Q ⟨ρ, st, Z, ι, e, r, p⟩ => ?_
  refine rdG.mono (kont e r p) fun v H1 ⟨st1, Z1, ι1, x, g1, e1, r1, rx, p1⟩ => ?_
  refine rdG.mono (kont e1 r1 p1) fun u H2 ⟨st2, Z2, ι2, y, g2, e2, r2, ry, p2⟩ => ?_
  have rx2 := rx.mono g2.toExt
  cases rx2 with
  | int i => cases ry with
    | int j =>
      refine ⟨i, j, rfl, rfl, f i j, rfl, ?_⟩
      cases hk : f i j with
      | false => simp only [cI, hk] at p2; exact iteF (p2 _ H2 Z2 ι2 (Grow.refl _ _ _) r2 (.bl false))
      | true =>
        simp only [cI, hk] at p2
        refine iteT (rdG.mono (kont e2 r2 p2) fun w H3 ⟨st3, Z3, ι3, z, g3, e3, r3, rz, p3⟩ => ?_)
        cases rz with
        | int l => exact ⟨j, l, rfl, rfl, p3 _ H3 Z3 ι3 (Grow.refl _ _ _) r3 (.bl _)⟩
        | _ => exact p3.elim
    | _ => exact p2.elim
  | _ => exact p2.elim
theorem st_chain {X : Cx} {W : WX} {a b c : Expr} {ma mb mc : ME} {op op' : CmpOp} {f f' : Int → Int → Bool} {pos : Pos} (ho : OpR X (compareOp op) (rI0 fun i j => .bl (f i j))) (ho' : OpR X (compareOp op') (rI0 fun i j => .bl (f' i j))) (ha : Sd X W a ma) (hb : Sd X W b mb) (hc : Sd X W c mc) (hm : lastMarks [op, op'] [b, c] = false := by with_unfolding_all rfl) :
    SdT X W (.Compare a [op, op'] [b, c] pos) (mTst (mChain (cI f) (cI f') ma mb mc)) := by
  refine pt_imp (pt_chain ho ho' ha hb hc hm) fun σ H Q h => ?_
  obtain ⟨ρ, st, Z, ι, e, r, p⟩ := rdT_tst h
  refine rdG.mono (kont e r p) fun v H1 ⟨st1, Z1, ι1, x, g1, e1, r1, rx, p1⟩ => ?_
  refine rdG.mono (kont e1 r1 p1) fun u H2 ⟨st2, Z2, ι2, y, g2, e2, r2, ry, p2⟩ => ?_
  have rx2 := rx.mono g2.toExt
  cases rx2 with
  | int i => cases ry with
    | int j =>
      refine ⟨i, j, rfl, rfl, f i j, rfl, ?_⟩
      cases hk : f i j with
      | false => simp only [cI, hk] at p2; exact iteF (p2 _ H2 Z2 ι2 (Grow.refl _ _ _) r2 (.bl false))
      | true =>
        simp only [cI, hk] at p2
        refine iteT (rdG.mono (kont e2 r2 p2) fun w H3 ⟨st3, Z3, ι3, z, g3, e3, r3, rz, p3⟩ => ?_)
        cases rz with
        | int l => exact ⟨j, l, rfl, rfl, p3 _ H3 Z3 ι3 (Grow.refl _ _ _) r3 (.bl _)⟩
        | _ => exact p3.elim
    | _ => exact p2.elim
  | _ => exact p2.elim
/-! ### built-in functions -/
def CallS (K : PySem.W.Frag) (f : Sto → List D → Option (D × Sto)) (r : List V → Hp → VK → Prop) : Prop := ∀ (st st' : Sto) (ds : List D) (d : D) (vs : List V) (H Z : Hp) (ι : List Addr) (Q : VK), f st ds = some (d, st') → Rel K st H Z ι → RpL K Z ι vs ds →
  (∀ z H' Z' ι', Grow Z ι H Z' ι' H' → Rel K st' H' Z' ι' → Rp K Z' ι' z d → Q z H') → r vs H Q
def mCallB (f : Sto → List D → Option (D × Sto)) (a : MA) : ME := fun ρ s => bnd (a ρ s) fun ds s => match f s ds with
  | some (d, s') => some (.ok d s')
  | none => none
def pu (g : Sto → List D → Option D) : Sto → List D → Option (D × Sto) := fun s ds => (g s ds).map fun d => (d, s)
theorem pu_inv {g : Sto → List D → Option D} {s s' : Sto} {ds : List D} {d : D} (h : pu g s ds = some (d, s')) : g s ds = some d ∧ s' = s := by
  unfold pu at h
  cases e : g s ds with
  | none => rw [e] at h; cases h
  | some x => rw [e] at h; cases h; exact ⟨rfl, rfl⟩
theorem cb_read {K : PySem.W.Frag} {W : WX} {f : Sto → List D → Option (D × Sto)} {r : List V → Hp → VK → Prop} {ms : MA} {σ : L2.St} {H : Hp} {Q : VK} (hs : CallS K f r) (h : rd K W (mCallB f ms) σ H Q) : tCB r (rdA K W ms) σ H Q := by
  obtain ⟨ρ, st, Z, ι, e, r0, p⟩ := h
  refine rdG.mono (kont e r0 p) fun vs H1 ⟨st1, Z1, ι1, ds, g1, e1, r1, rx, p1⟩ => ?_
  cases hf : f st1 ds with
  | none => rw [hf] at p1; exact p1.elim
  | some q => obtain ⟨d, st2⟩ := q; rw [hf] at p1; exact hs st1 st2 ds d vs H1 Z1 ι1 Q hf r1 rx p1
section
variable {X : Cx} {W : WX} {e : Expr} {es : List Expr} {p pos : Pos} {ms : MA} {x : Str} {id T : String} {r : List V → Hp → VK → Prop} {f : Sto → List D → Option (D × Sto)}
theorem sd_callB (hc : CallR X (.builtin id) r) (hs : CallS X.K f r) (hm : X.mg x = none) (hv : bootBuiltins x = some (.builtin id)) (ha : SdA X W (e :: es) ms) (hg : Gl X x := by rfl) (hn : x ≠ "__name__" := by decide) (hdb : (x == ("__debug__" : Str)) = false := by decide)
    (he : starEach (e :: es) X.env = (false, eval e X.env) :: starEach es X.env := by rfl) (hpl : (backTo pos (starEach es X.env)).any (·.1) = false := by rfl) : Sd X W (.Call (.Name x p) (e :: es) [] pos) (mCallB f ms) :=
  pe_imp (pe_callB hc hg hm hv ha hn hdb he hpl) fun _ _ _ h => cb_read hs h
theorem sd_callTy (hc : CallR X (.type T) r) (hs : CallS X.K f r) (hm : X.mg x = none) (hv : bootBuiltins x = some (.type T)) (ha : SdA X W (e :: es) ms) (hg : Gl X x := by rfl) (hn : x ≠ "__name__" := by decide) (hdb : (x == ("__debug__" : Str)) = false := by decide)
    (he : starEach (e :: es) X.env = (false, eval e X.env) :: starEach es X.env := by rfl) (hpl : (backTo pos (starEach es X.env)).any (·.1) = false := by rfl) : Sd X W (.Call (.Name x p) (e :: es) [] pos) (mCallB f ms) :=
  pe_imp (pe_callTy hc hg hm hv ha hn hdb he hpl) fun _ _ _ h => cb_read hs h
end
/-- len -/
def gLen (s : Sto) : List D → Option D
  | [.str z] => if z.length ≤ 16777216 then some (.int z.length) else none
  | [x] => (items? s x).map fun l => .int l.length
  | _ => none
theorem cs_len {K : PySem.W.Frag} : CallS K (pu gLen) (fun xs H Q => ∃ x n, xs = [x] ∧ LenV K x H n ∧ Q (.int n) H) := fun st st' ds d vs H Z ι Q hf r hv k => by
  obtain ⟨hf, rfl⟩ := pu_inv hf
  cases hv with
  | nil => cases hf
  | cons h q => cases q with
    | cons _ _ => cases h <;> cases hf
    | nil =>
      have seq : ∀ {v : V} {x : D}, Rp K Z ι v x → ((items? st' x).map fun l => D.int l.length) = some d → ∃ x n, [v] = [x] ∧ LenV K x H n ∧ Q (.int n) H := fun {v x} hx hf => by
        cases h1 : items? st' x with
        | none => rw [h1] at hf; cases hf
        | some l =>
          rw [h1] at hf
          cases hf
          obtain ⟨a, xs, rfl, hq, hr⟩ := items_sq r hx h1
          refine ⟨_, xs.length, rfl, ?_, by rw [hr.length]; exact k _ H Z ι (Grow.refl _ _ _) r (.int _)⟩
          rcases hq with q | q
          · exact .inr ⟨xs, q, rfl⟩
          · exact .inl ⟨xs, SqL.of q, rfl⟩
      cases h with
      | str z =>
        unfold gLen at hf
        dsimp only at hf
        split at hf
        · rename_i hl
          cases hf
          exact ⟨_, _, rfl, ⟨by rw [← sline]; exact hl, rfl⟩, k _ H Z ι (Grow.refl _ _ _) r (.int _)⟩
        · cases hf
      | lst h q => exact seq (.lst h q) hf
      | tup h q => exact seq (.tup h q) hf
      | ref h => exact seq (.ref h) hf
      | non => cases hf
      | bl b => cases hf
      | int j => cases hf
      | dct _ _ _ => cases hf
      | scr _ => cases hf
/-- list(x): a new immutable list, a new box -/
def seqS (s : Sto) : D → Option (List D)
  | .scr ns => some (ns.map .int)
  | x => items? s x
def gList (s : Sto) : List D → Option D
  | [x] => (seqS s x).map .lst
  | _ => none
def gListB (s : Sto) : List D → Option (D × Sto)
  | [x] => (seqS s x).map fun l => (.ref s.length, s ++ [.lst l])
  | _ => none
theorem ints_rp {K : PySem.W.Frag} {Z : Hp} {ι : List Addr} : ∀ ns : List Int, RpL K Z ι (ns.map V.int) (ns.map D.int)
  | [] => .nil
  | n :: ns => .cons (.int n) (ints_rp ns)
theorem seqS_sq {K : PySem.W.Frag} {st : Sto} {H Z : Hp} {ι : List Addr} {v : V} {d : D} {ds : List D} (r : Rel K st H Z ι) (h : Rp K Z ι v d) (hi : seqS st d = some ds) : ∃ a xs, v = .ref a ∧ (SqL K H a xs ∨ SqT K H a xs) ∧ RpL K Z ι xs ds := by
  have go : ∀ {v : V} {d : D}, Rp K Z ι v d → items? st d = some ds → ∃ a xs, v = .ref a ∧ (SqL K H a xs ∨ SqT K H a xs) ∧ RpL K Z ι xs ds := fun {v d} h hi => by
    obtain ⟨a, xs, e, hq, hr⟩ := items_sq r h hi
    exact ⟨a, xs, e, hq.elim .inr fun q => .inl (SqL.of q), hr⟩
  cases h with
  | scr h => cases hi; exact ⟨_, _, rfl, .inl (same_sql r.zin h), ints_rp _⟩
  | lst h q => exact go (.lst h q) hi
  | tup h q => exact go (.tup h q) hi
  | ref h => exact go (.ref h) hi
  | _ => cases hi
theorem cs_list {K : PySem.W.Frag} : CallS K (pu gList) (fun xs H Q => ∃ p ys, xs = [.ref p] ∧ (SqL K H p ys ∨ SqT K H p ys) ∧ ∀ l, H l = none → Q (.ref l) (upd H l (.lst ys))) := fun st st' ds d vs H Z ι Q hf r hv k => by
  obtain ⟨hf, rfl⟩ := pu_inv hf
  cases hv with
  | nil => cases hf
  | @cons v _ x _ h q => cases q with
    | cons _ _ => cases hf
    | nil =>
      cases h1 : seqS st' x with
      | none => simp [gList, h1] at hf
      | some l =>
        simp [gList, h1] at hf
        subst hf
        obtain ⟨a, xs, rfl, hq, hr⟩ := seqS_sq r h h1
        refine ⟨a, xs, rfl, hq, fun n hn => ?_⟩
        obtain ⟨r2, g2⟩ := r.zone (o := .lst xs) hn
        exact k _ _ _ _ g2 r2 (.lst upd_same (hr.mono g2.toExt))
theorem cs_listB {K : PySem.W.Frag} : CallS K gListB (fun xs H Q => ∃ p ys, xs = [.ref p] ∧ (SqL K H p ys ∨ SqT K H p ys) ∧ ∀ l, H l = none → Q (.ref l) (upd H l (.lst ys))) := fun st st' ds d vs H Z ι Q hf r hv k => by
  cases hv with
  | nil => cases hf
  | @cons v _ x _ h q => cases q with
    | cons _ _ => cases hf
    | nil =>
      cases h1 : seqS st x with
      | none => simp [gListB, h1] at hf
      | some l =>
        simp [gListB, h1] at hf
        obtain ⟨rfl, rfl⟩ := hf
        obtain ⟨a, xs, rfl, hq, hr⟩ := seqS_sq r h h1
        refine ⟨a, xs, rfl, hq, fun n hn => ?_⟩
        obtain ⟨r2, g2, h2⟩ := box_lst r hn hr
        exact k _ _ _ _ g2 r2 h2
def gTuple (s : Sto) : List D → Option D
  | [x] => (items? s x).map .tup
  | _ => none
theorem cs_tuple {K : PySem.W.Frag} : CallS K (pu gTuple) (fun xs H Q => ∃ p ys, xs = [.ref p] ∧ ((SqL K H p ys ∧ ∀ l, H l = none → Q (.ref l) (upd H l (.tup ys))) ∨ (SqT K H p ys ∧ Q (.ref p) H))) := fun st st' ds d vs H Z ι Q hf r hv k => by
  obtain ⟨hf, rfl⟩ := pu_inv hf
  cases hv with
  | nil => cases hf
  | @cons v _ x _ h q => cases q with
    | cons _ _ => cases hf
    | nil =>
      have lists : ∀ {l : List D} {a : Addr} {xs : List V}, H a = some (.lst xs) → RpL K Z ι xs l → (∀ z H' Z' ι', Grow Z ι H Z' ι' H' → Rel K st' H' Z' ι' → Rp K Z' ι' z (.tup l) → Q z H') → ∃ p ys, [V.ref a] = [.ref p] ∧ ((SqL K H p ys ∧ ∀ l, H l = none → Q (.ref l) (upd H l (.tup ys))) ∨ (SqT K H p ys ∧ Q (.ref p) H)) := fun {l a xs} hH hr k => by
        refine ⟨a, xs, rfl, .inl ⟨SqL.of hH, fun n hn => ?_⟩⟩
        obtain ⟨r2, g2⟩ := r.zone (o := .tup xs) hn
        exact k _ _ _ _ g2 r2 (.tup (SqT.of upd_same) (hr.mono g2.toExt))
      cases h with
      | lst h q => cases hf; exact lists (r.zin _ _ h) q k
      | tup h q => cases hf; exact ⟨_, _, rfl, .inr ⟨same_sqt r.zin h, k _ H Z ι (Grow.refl _ _ _) r (.tup h q)⟩⟩
      | @ref n a h =>
        cases h1 : items? st' (.ref n) with
        | none => simp [gTuple, h1] at hf
        | some l =>
          simp [gTuple, h1] at hf
          subst hf
          obtain ⟨b, xs, e, hq, hr⟩ := lst_sq r (.ref h) (show lst? st' (.ref n) = some l from h1)
          cases e
          exact lists hq hr k
      | _ => cases hf
def gInt : Sto → List D → Option D := fun _ ds => match ds with
  | [.int i] => some (.int i)
  | [.bl b] => some (.int (if b then 1 else 0))
  | _ => none
theorem cs_int {K : PySem.W.Frag} : CallS K (pu gInt) (fun xs H Q => (∃ i, xs = [.int i] ∧ Q (.int i) H) ∨ ∃ k, xs = [.bl k] ∧ Q (.int (if k then 1 else 0)) H) := fun st st' ds d vs H Z ι Q hf r hv k => by
  obtain ⟨hf, rfl⟩ := pu_inv hf
  cases hv with
  | nil => cases hf
  | cons h q => cases q with
    | cons _ _ => cases h <;> cases hf
    | nil => cases h with
      | int i => cases hf; exact .inl ⟨i, rfl, k _ H Z ι (Grow.refl _ _ _) r (.int _)⟩
      | bl b => cases hf; exact .inr ⟨b, rfl, k _ H Z ι (Grow.refl _ _ _) r (.int _)⟩
      | _ => cases hf
def bls : List D → Option (List Bool)
  | [] => some []
  | .bl b :: r => (bls r).map (b :: ·)
  | _ :: _ => none
theorem bls_rp {K : PySem.W.Frag} {Z : Hp} {ι : List Addr} : ∀ {xs : List V} {ds : List D} {bs : List Bool}, RpL K Z ι xs ds → bls ds = some bs → xs = bs.map V.bl
  | _, _, _, .nil, h => by cases h; rfl
  | _, _, _, .cons h q, e => by
    cases h with
    | bl b =>
      rename_i ds
      unfold bls at e
      cases e2 : bls ds with
      | none => rw [e2] at e; cases e
      | some cs => rw [e2] at e; cases e; rw [List.map_cons, bls_rp q e2]
    | _ => cases e
def gAll (s : Sto) : List D → Option D
  | [x] => ((lst? s x).bind bls).map fun bs => .bl (bs.all id)
  | _ => none
def gAny (s : Sto) : List D → Option D
  | [x] => ((lst? s x).bind bls).map fun bs => .bl (bs.any id)
  | _ => none
theorem cs_all {K : PySem.W.Frag} : CallS K (pu gAll) (rAll K) := fun st st' ds d vs H Z ι Q hf r hv k => by
  obtain ⟨hf, rfl⟩ := pu_inv hf
  cases hv with
  | nil => cases hf
  | @cons v _ x _ h q => cases q with
    | cons _ _ => cases hf
    | nil =>
      cases h1 : lst? st' x with
      | none => simp [gAll, h1] at hf
      | some l => cases h2 : bls l with
        | none => simp [gAll, h1, h2] at hf
        | some bs =>
          simp [gAll, h1, h2] at hf
          subst hf
          obtain ⟨a, xs, rfl, hH, hr⟩ := lst_sq r h h1
          have e := bls_rp hr h2
          subst e
          exact ⟨a, bs, rfl, SqL.of hH, k _ H Z ι (Grow.refl _ _ _) r (.bl _)⟩
theorem cs_any {K : PySem.W.Frag} : CallS K (pu gAny) (rAny K) := fun st st' ds d vs H Z ι Q hf r hv k => by
  obtain ⟨hf, rfl⟩ := pu_inv hf
  cases hv with
  | nil => cases hf
  | @cons v _ x _ h q => cases q with
    | cons _ _ => cases hf
    | nil =>
      cases h1 : lst? st' x with
      | none => simp [gAny, h1] at hf
      | some l => cases h2 : bls l with
        | none => simp [gAny, h1, h2] at hf
        | some bs =>
          simp [gAny, h1, h2] at hf
          subst hf
          obtain ⟨a, xs, rfl, hH, hr⟩ := lst_sq r h h1
          have e := bls_rp hr h2
          subst e
          exact ⟨a, bs, rfl, SqL.of hH, k _ H Z ι (Grow.refl _ _ _) r (.bl _)⟩
end MP

set_option Elab.async false
set_option linter.all false
set_option maxRecDepth 100000
set_option maxHeartbeats 4000000
/-! MP9: methods of lists, stores by place, dicts -/
namespace MP
open PySem L2

/-! ### methods of built-in things -/
def MethS (K : PySem.W.Frag) (f : Sto → D → List D → Option (D × Sto)) (r : V → List V → Hp → VK → Prop) : Prop := ∀ (st st' : Sto) (x : D) (ds : List D) (d : D) (v : V) (vs : List V) (H Z : Hp) (ι : List Addr) (Q : VK), f st x ds = some (d, st') → Rel K st H Z ι → Rp K Z ι v x → RpL K Z ι vs ds →
  (∀ z H' Z' ι', Grow Z ι H Z' ι' H' → Rel K st' H' Z' ι' → Rp K Z' ι' z d → Q z H') → r v vs H Q
def mBm (ty : Sto → D → Bool) (f : Sto → D → List D → Option (D × Sto)) (o : ME) (a : MA) : ME := fun ρ s => bnd (o ρ s) fun x s => if ty s x = true then bnd (a ρ s) fun ds s => (match f s x ds with
  | some (d, s') => some (.ok d s')
  | none => none) else none
def mBm0 (ty : Sto → D → Bool) (f : Sto → D → List D → Option (D × Sto)) (o : ME) : ME := fun ρ s => bnd (o ρ s) fun x s => if ty s x = true then (match f s x [] with
  | some (d, s') => some (.ok d s')
  | none => none) else none
def tyL (s : Sto) (x : D) : Bool := (lst? s x).isSome
def tyS (_ : Sto) : D → Bool
  | .str _ => true
  | _ => false
def TyS (K : PySem.W.Frag) (T : String) (ty : Sto → D → Bool) : Prop := ∀ st x v H Z ι, ty st x = true → Rel K st H Z ι → Rp K Z ι v x → tyV K T v H
theorem ty_list {K : PySem.W.Frag} : TyS K "list" tyL := fun st x v H Z ι h r hx => by
  unfold tyL at h
  cases e : lst? st x with
  | none => rw [e] at h; cases h
  | some l =>
    obtain ⟨a, xs, rfl, hH, _⟩ := lst_sq r hx e
    exact .inl ⟨rfl, xs, SqL.of hH⟩
theorem ty_str {K : PySem.W.Frag} : TyS K "str" tyS := fun st x v H Z ι h r hx => by
  cases hx with
  | str z => exact rfl
  | _ => cases h
section
variable {X : Cx} {W : WX} {o e : Expr} {es : List Expr} {mo : ME} {ms : MA} {name : Str} {apos cpos : Pos} {T id : String} {r : V → List V → Hp → VK → Prop} {ty : Sto → D → Bool} {f : Sto → D → List D → Option (D × Sto)}
theorem sd_bm (pa : PlainAttrs T) (slot : Slot T name id) (hty : typeOf (.builtin id) = pure (.type "method_descriptor")) (hm : MtR X id r) (hT : TyS X.K T ty) (hs : MethS X.K f r) (ho : Sd X W o mo) (ha : SdA X W (e :: es) ms)
    (hbase : attributeBase o name X.env (eval o X.env) = eval o X.env := by rfl)
    (hfew : ((backTo cpos (starEach (e :: es) X.env)).all (fun x => !x.1) && (backToKw cpos (keywordEach [] X.env)).all (fun x => x.1.isSome) && decide ((e :: es).length + ([] : List Keyword).length + (if ([] : List Keyword).isEmpty then 0 else 1) < 30)) = true := by rfl)
    (hline : (apos.endLine == cpos.line) = true := by rfl) (hst : starEach (e :: es) X.env = (false, eval e X.env) :: starEach es X.env := by rfl) (hplain : (backTo cpos (starEach es X.env)).any (·.1) = false := by rfl) :
    Sd X W (.Call (.Attribute o name apos) (e :: es) [] cpos) (mBm ty f mo ms) := by
  refine pe_imp (pe_bm pa slot hty hm ho ha hbase hfew hline hst hplain) fun σ H Q ⟨ρ, st, Z, ι, en, r0, p⟩ => ?_
  refine rdG.mono (kont en r0 p) fun v H1 ⟨st1, Z1, ι1, x, g1, e1, r1, rx, p1⟩ => ?_
  by_cases ht : ty st1 x = true
  · rw [if_pos ht] at p1
    refine ⟨hT st1 x v H1 Z1 ι1 ht r1 rx, rdG.mono (kont e1 r1 p1) fun vs H2 ⟨st2, Z2, ι2, ds, g2, e2, r2, rds, p2⟩ => ?_⟩
    cases hf : f st2 x ds with
    | none => rw [hf] at p2; exact p2.elim
    | some q => obtain ⟨d, st3⟩ := q; rw [hf] at p2; exact hs st2 st3 x ds d v vs H2 Z2 ι2 Q hf r2 (rx.mono g2.toExt) rds p2
  · rw [if_neg ht] at p1; exact p1.elim
theorem sd_bm0 (pa : PlainAttrs T) (slot : Slot T name id) (hty : typeOf (.builtin id) = pure (.type "method_descriptor")) (hm : MtR X id r) (hT : TyS X.K T ty) (hs : MethS X.K f r) (ho : Sd X W o mo)
    (hbase : attributeBase o name X.env (eval o X.env) = eval o X.env := by rfl) (hline : (apos.endLine == cpos.line) = true := by rfl) : Sd X W (.Call (.Attribute o name apos) [] [] cpos) (mBm0 ty f mo) := by
  refine pe_imp (pe_bm0 pa slot hty hm ho hbase hline) fun σ H Q ⟨ρ, st, Z, ι, en, r0, p⟩ => ?_
  refine rdG.mono (kont en r0 p) fun v H1 ⟨st1, Z1, ι1, x, g1, e1, r1, rx, p1⟩ => ?_
  by_cases ht : ty st1 x = true
  · rw [if_pos ht] at p1
    refine ⟨hT st1 x v H1 Z1 ι1 ht r1 rx, ?_⟩
    cases hf : f st1 x [] with
    | none => rw [hf] at p1; exact p1.elim
    | some q => obtain ⟨d, st3⟩ := q; rw [hf] at p1; exact hs st1 st3 x [] d v [] H1 Z1 ι1 Q hf r1 rx .nil p1
  · rw [if_neg ht] at p1; exact p1.elim
end
/-- the box list behind a reference -/
def box? (s : Sto) : D → Option (Nat × List D)
  | .ref n => match s[n]? with
    | some (.lst l) => some (n, l)
    | _ => none
  | _ => none
theorem box_at {K : PySem.W.Frag} {st : Sto} {H Z : Hp} {ι : List Addr} {v : V} {x : D} {n : Nat} {l : List D} (r : Rel K st H Z ι) (h : Rp K Z ι v x) (hb : box? st x = some (n, l)) : ∃ a xs, v = .ref a ∧ x = .ref n ∧ st[n]? = some (.lst l) ∧ ι[n]? = some a ∧ Z a = none ∧ H a = some (.lst xs) ∧ RpL K Z ι xs l := by
  cases h with
  | @ref m a h =>
    unfold box? at hb
    dsimp only at hb
    split at hb
    · rename_i l' hl
      cases hb
      obtain ⟨hz, xs, h2, h3⟩ := r.ob _ _ a hl h
      exact ⟨a, xs, rfl, rfl, hl, h, hz, h2, h3⟩
    · cases hb
  | _ => cases hb
theorem Rel.setL {K : PySem.W.Frag} {st : Sto} {H Z : Hp} {ι : List Addr} (r : Rel K st H Z ι) {n : Nat} {a : Addr} {xs : List V} {ds : List D} (hn : ι[n]? = some a) (hz : Z a = none) (q : RpL K Z ι xs ds) : Rel K (st.set n (.lst ds)) (upd H a (.lst xs)) Z ι ∧ Grow Z ι H Z ι (upd H a (.lst xs)) :=
  r.change hn hz fun H' e => ⟨hz, xs, e, q⟩
def bAppend (s : Sto) (x : D) : List D → Option (D × Sto)
  | [y] => (box? s x).bind fun nl => if nl.2.length < 16777216 then some (.non, s.set nl.1 (.lst (nl.2 ++ [y]))) else none
  | _ => none
theorem ms_append {K : PySem.W.Frag} : MethS K bAppend rAppend := fun st st' x ds d v vs H Z ι Q hf r hx hv k => by
  cases hv with
  | nil => cases hf
  | @cons u _ y _ h q => cases q with
    | cons _ _ => cases hf
    | nil =>
      cases hb : box? st x with
      | none => simp [bAppend, hb] at hf
      | some nl =>
        obtain ⟨n, l⟩ := nl
        simp [bAppend, hb] at hf
        obtain ⟨hl, rfl, rfl⟩ := hf
        obtain ⟨a, xs, rfl, rfl, hs, hn, hz, hH, hr⟩ := box_at r hx hb
        obtain ⟨r2, g2⟩ := r.setL hn hz (hr.append (.one h))
        exact ⟨a, xs, u, rfl, rfl, hH, by rw [hr.length, ← sline]; exact hl, k _ _ _ _ g2 r2 .non⟩
def bPopAt (s : Sto) (x : D) : List D → Option (D × Sto)
  | [.int i] => (box? s x).bind fun nl => if decide (-(2 ^ 63) ≤ i) && decide (i < 2 ^ 63) then match seqIndex? i nl.2.length with
    | some k => (nl.2[k]?).map fun y => (y, s.set nl.1 (.lst (nl.2.eraseIdx k)))
    | none => none else none
  | _ => none
theorem RpL.erase {K : PySem.W.Frag} {Z : Hp} {ι : List Addr} : ∀ {xs : List V} {ds : List D} (k : Nat), RpL K Z ι xs ds → RpL K Z ι (xs.eraseIdx k) (ds.eraseIdx k)
  | _, _, _, .nil => .nil
  | _, _, 0, .cons _ q => q
  | _, _, k + 1, .cons h q => .cons h (RpL.erase k q)
theorem ms_popAt {K : PySem.W.Frag} : MethS K bPopAt rPopAt := fun st st' x ds d v vs H Z ι Q hf r hx hv k => by
  cases hv with
  | nil => cases hf
  | @cons u _ y _ h q => cases q with
    | cons _ _ => cases h <;> cases hf
    | nil =>
      cases h with
      | int i =>
        cases hb : box? st x with
        | none => simp [bPopAt, hb] at hf
        | some nl =>
          obtain ⟨n, l⟩ := nl
          simp only [bPopAt, hb, Option.bind_some] at hf
          split at hf
          · rename_i hi
            rw [Bool.and_eq_true, decide_eq_true_eq, decide_eq_true_eq] at hi
            split at hf
            · rename_i j hj
              cases hy : l[j]? with
              | none => rw [hy] at hf; cases hf
              | some y =>
                rw [hy] at hf
                cases hf
                obtain ⟨a, xs, rfl, rfl, hs, hn, hz, hH, hr⟩ := box_at r hx hb
                obtain ⟨w, hw, rw'⟩ := hr.get hy
                obtain ⟨r2, g2⟩ := r.setL hn hz (hr.erase j)
                exact ⟨a, xs, i, j, w, rfl, rfl, hH, hi.1, hi.2, by rw [hr.length]; exact hj, hw, k _ _ _ _ g2 r2 rw'⟩
            · cases hf
          · cases hf
      | _ => cases hf
def bPop (s : Sto) (x : D) : List D → Option (D × Sto)
  | [] => (box? s x).bind fun nl => (nl.2[nl.2.length - 1]?).map fun y => (y, s.set nl.1 (.lst nl.2.dropLast))
  | _ => none
theorem RpL.dropL {K : PySem.W.Frag} {Z : Hp} {ι : List Addr} {xs : List V} {ds : List D} (q : RpL K Z ι xs ds) : RpL K Z ι xs.dropLast ds.dropLast := by
  rw [List.dropLast_eq_take, List.dropLast_eq_take, q.length]
  exact q.take _
theorem ms_pop {K : PySem.W.Frag} : MethS K bPop rPop := fun st st' x ds d v vs H Z ι Q hf r hx hv k => by
  cases hv with
  | cons _ _ => cases hf
  | nil =>
    cases hb : box? st x with
    | none => simp [bPop, hb] at hf
    | some nl =>
      obtain ⟨n, l⟩ := nl
      simp only [bPop, hb, Option.bind_some] at hf
      cases hy : l[l.length - 1]? with
      | none => rw [hy] at hf; cases hf
      | some y =>
        rw [hy] at hf
        cases hf
        obtain ⟨a, xs, rfl, rfl, hs, hn, hz, hH, hr⟩ := box_at r hx hb
        obtain ⟨w, hw, rw'⟩ := hr.get hy
        obtain ⟨r2, g2⟩ := r.setL hn hz hr.dropL
        exact ⟨a, xs, w, rfl, rfl, hH, by rw [hr.length]; exact hw, k _ _ _ _ g2 r2 rw'⟩
def bExtend (s : Sto) (x : D) : List D → Option (D × Sto)
  | [y] => match box? s x, items? s y with
    | some nl, some m => if nl.2.length + m.length ≤ 16777216 then some (.non, s.set nl.1 (.lst (nl.2 ++ m))) else none
    | _, _ => none
  | _ => none
def rExtendM (K : PySem.W.Frag) : V → List V → Hp → VK → Prop := fun x vs H Q => rExtend x vs H Q ∨ ∃ l b xs zs, x = .ref l ∧ vs = [.ref b] ∧ H l = some (.lst xs) ∧ SqT K H b zs ∧ xs.length + zs.length ≤ sizeLine ∧ Q .non (upd H l (.lst (xs ++ zs)))
theorem extend_tup (l : Addr) (items : Array Value) (n : Nat) (b : Addr) (items2 : Array Value) (n2 : Nat) (dct : Option Addr) (sl : Array (Option Value)) (h0 : ¬(!items.isEmpty && Builtin.List.listTooLong (items.size + items2.size)) = true) (h1 : items.size ≤ sizeLine) (h2 : items.size + items2.size ≤ sizeLine + 1) :
    Meets (Builtin.«list.extend» ⟨[.ref l, .ref b], []⟩) (fun _ R s => (s.heap.get? l = some { cls := .type "list", dict := none, data := .seq items n, slots := #[] } ∧ s.heap.get? b = some { cls := .type "tuple", dict := dct, data := .seq items2 n2, slots := sl }) ∧ R (.ok (.ret Value.none)) { s with heap := s.heap.update l (Obj.mapSeq fun x => x ++ items2), toks := s.toks }) :=
  .of_wp fun prog w A R s ⟨⟨hl, hb⟩, h⟩ => by
    obtain ⟨hp, g, d, tk, os⟩ := s
    have f1 := AutoSeq1.sub_tuple_tuple
    have f2 := AutoSeq1.sub_list_list
    have f3 := AutoSeq1.sub_tuple_list
    have f4 := AutoSeq1.sub_list_tuple
    have hz' : (items ++ items2).size ≤ sizeLine + 1 := by rw [Array.size_append]; exact h2
    wp_walk using (wpAny_updateSeq hl rfl (hz := h1) (_hz' := hz')), wpAny_loadPart' hl, wpAny_loadPart' hb
    exact ⟨_, rfl, h⟩
theorem mt_extendT {X : Cx} : MtR X "list.extend" (fun x vs H Q => ∃ l b xs zs, x = .ref l ∧ vs = [.ref b] ∧ H l = some (.lst xs) ∧ SqT X.K H b zs ∧ xs.length + zs.length ≤ sizeLine ∧ Q .non (upd H l (.lst (xs ++ zs)))) := by
  intro pins s σ H x vs v us Q I rx rv h
  obtain ⟨l, b, xs, zs, rfl, rfl, hH, hB, hz, q⟩ := h
  cases rx
  obtain ⟨u, rfl, ru⟩ := vals1 rv
  cases ru
  obtain ⟨z, its, n, r, hl, e⟩ := I.lstM hH
  obtain ⟨its2, r2, ht, hz2⟩ := I.tuple hB
  obtain ⟨⟨c2, dd2, dt2, sl2⟩, e2, hc2, n2, hd2⟩ := ht
  have hl2 := r2.length
  cases (show c2 = Value.type "tuple" from hc2)
  cases (show dt2 = Data.seq its2.toArray n2 from hd2)
  have hsz : its.toArray.size + its2.toArray.size ≤ sizeLine := by rw [List.size_toArray, List.size_toArray]; omega
  have hlong : ¬ (!its.toArray.isEmpty && Builtin.List.listTooLong (its.toArray.size + its2.toArray.size)) = true := by
    rw [notLongL hsz, Bool.and_false]
    exact Bool.false_ne_true
  refine call_meets F.slot_list_extend ⟨_, e, rfl⟩ F.entry_list_extend (F.args_list_extend_2 _ _) (extend_tup l its.toArray n b its2.toArray n2 dd2 sl2 hlong (by rw [List.size_toArray]; omega) (by omega)) ⟨⟨e, e2⟩, ?_⟩
  exact ⟨.non, _, I.lset (its' := its ++ its2) hH e (by simp) (r.append r2) (by rw [List.length_append]; exact hz), rfl, q⟩
theorem mt_extendM {X : Cx} : MtR X "list.extend" (rExtendM X.K) := MtR.or mt_extend mt_extendT
theorem ms_extend {K : PySem.W.Frag} : MethS K bExtend (rExtendM K) := fun st st' x ds d v vs H Z ι Q hf r hx hv k => by
  cases hv with
  | nil => cases hf
  | @cons u _ y _ h q => cases q with
    | cons _ _ => cases hf
    | nil =>
      cases hb : box? st x with
      | none => simp [bExtend, hb] at hf
      | some nl => cases hi : items? st y with
        | none => simp [bExtend, hb, hi] at hf
        | some m =>
          obtain ⟨n, l⟩ := nl
          simp [bExtend, hb, hi] at hf
          obtain ⟨hl, rfl, rfl⟩ := hf
          obtain ⟨a, xs, rfl, rfl, hs, hn, hz, hH, hr⟩ := box_at r hx hb
          obtain ⟨b, ys, rfl, hq, hr2⟩ := items_sq r h hi
          obtain ⟨r2, g2⟩ := r.setL hn hz (hr.append hr2)
          have hsz : xs.length + ys.length ≤ sizeLine := by rw [hr.length, hr2.length, ← sline]; exact hl
          rcases hq with q | q
          · exact .inr ⟨a, b, xs, ys, rfl, rfl, hH, q, hsz, k _ _ _ _ g2 r2 .non⟩
          · exact .inl ⟨a, b, xs, ys, rfl, rfl, hH, q, hsz, k _ _ _ _ g2 r2 .non⟩
def bInsert (s : Sto) (x : D) : List D → Option (D × Sto)
  | [.int i, y] => (box? s x).bind fun nl => if decide (nl.2.length < 16777216) && (decide (0 ≤ i) && decide (i < 2 ^ 63)) then some (.non, s.set nl.1 (.lst (nl.2.take i.toNat ++ [y] ++ nl.2.drop i.toNat))) else none
  | _ => none
theorem ms_insert {K : PySem.W.Frag} : MethS K bInsert (fun x vs H Q => ∃ (l : Addr) (xs : List V) (i : Int) (y : V), x = .ref l ∧ vs = [.int i, y] ∧ H l = some (.lst xs) ∧ xs.length < sizeLine ∧ 0 ≤ i ∧ i < 2 ^ 63 ∧ Q .non (upd H l (.lst (xs.take i.toNat ++ [y] ++ xs.drop i.toNat)))) := fun st st' x ds d v vs H Z ι Q hf r hx hv k => by
  cases hv with
  | nil => cases hf
  | cons h0 q0 => cases q0 with
    | nil => cases h0 <;> cases hf
    | @cons u _ y _ h q => cases q with
      | cons _ _ => cases h0 <;> cases hf
      | nil => cases h0 with
        | int i =>
          cases hb : box? st x with
          | none => simp [bInsert, hb] at hf
          | some nl =>
            obtain ⟨n, l⟩ := nl
            simp [bInsert, hb] at hf
            obtain ⟨⟨hl, h0, h1⟩, rfl, rfl⟩ := hf
            obtain ⟨a, xs, rfl, rfl, hs, hn, hz, hH, hr⟩ := box_at r hx hb
            obtain ⟨r2, g2⟩ := r.setL hn hz (((hr.take i.toNat).append (.one h)).append (hr.drop i.toNat))
            exact ⟨a, xs, i, u, rfl, rfl, hH, by rw [hr.length, ← sline]; exact hl, h0, by omega, k _ _ _ _ g2 (by simpa using r2) .non⟩
        | _ => cases hf
/-! ### x[i] = e -/
def gmSub (o i : ME) : MG := fun d ρ s => bnd (noX (o ρ s)) fun x s => bnd (noX (i ρ s)) fun y s => match y with
  | .int j => (match box? s x with
    | some nl => (match ixN nl.2.length j with
      | some k => some (.ok ρ (s.set nl.1 (.lst (nl.2.set k d))))
      | none => none)
    | none => none)
  | _ => none
theorem gmSub_noex {o i : ME} : ∀ d ρ s x s', gmSub o i d ρ s ≠ some (.ex x s') := fun d ρ s x s' h => by
  unfold gmSub at h
  cases h1 : noX (o ρ s) with
  | none => rw [h1] at h; cases h
  | some q => cases q with
    | ex _ _ => have := h1; unfold noX at this; split at this <;> cases this
    | ok a s1 =>
      rw [h1] at h
      dsimp only [bnd_ok] at h
      cases h2 : noX (i ρ s1) with
      | none => rw [h2] at h; cases h
      | some q => cases q with
        | ex _ _ => have := h2; unfold noX at this; split at this <;> cases this
        | ok b s2 =>
          rw [h2] at h
          dsimp only [bnd_ok] at h
          cases b with
          | int j =>
            dsimp only at h
            split at h
            · split at h
              · cases h
              · cases h
            · cases h
          | _ => cases h
section
variable {X : Cx} {W : WX} {o i : Expr} {pos : Pos} {mo mi : ME}
theorem sg_sub (h : PG X (.Subscript o i pos) (gSub (rd X.K W mo) (rd X.K W mi) rSetL)) : SdG X W (.Subscript o i pos) (gmSub mo mi) := by
  refine pg_imp h fun v σ H Q ⟨ρ, st, Z, ι, d, e, r, h, p⟩ => ?_
  unfold gmSub at p
  cases h1 : noX (mo ρ st) with
  | none => rw [h1] at p; exact p.elim
  | some q => cases q with
    | ex _ _ => have := h1; unfold noX at this; split at this <;> cases this
    | ok x st1 =>
      rw [h1] at p
      dsimp only [bnd_ok] at p
      refine ⟨ρ, st, Z, ι, e, r, Post.ok0 (noX_inv h1) fun vo H1 Z1 ι1 g1 r1 rx => ?_⟩
      cases h2 : noX (mi ρ st1) with
      | none => rw [h2] at p; exact p.elim
      | some q => cases q with
        | ex _ _ => have := h2; unfold noX at this; split at this <;> cases this
        | ok y st2 =>
          rw [h2] at p
          dsimp only [bnd_ok] at p
          refine ⟨ρ, st1, Z1, ι1, e.mono g1.toExt, r1, Post.ok0 (noX_inv h2) fun vi H2 Z2 ι2 g2 r2 ry => ?_⟩
          cases ry with
          | int j =>
            dsimp only at p
            cases hb : box? st2 x with
            | none => rw [hb] at p; exact p.elim
            | some nl =>
              obtain ⟨n, l⟩ := nl
              rw [hb] at p
              dsimp only at p
              cases hk : ixN l.length j with
              | none => rw [hk] at p; exact p.elim
              | some k =>
                rw [hk] at p
                obtain ⟨a, xs, rfl, rfl, hs, hn, hz, hH, hr⟩ := box_at r2 (rx.mono g2.toExt) hb
                have gg := g1.trans g2
                obtain ⟨r3, g3⟩ := r2.setL hn hz (RpL.set (h.mono gg.toExt) k hr)
                exact ⟨a, xs, j, k, rfl, rfl, hH, by rw [hr.length]; exact hk, p σ _ Z2 ι2 (gg.trans g3) r3 (e.mono gg.toExt)⟩
          | _ => exact p.elim
end
end MP

set_option Elab.async false
set_option linter.all false
set_option maxRecDepth 100000
set_option maxHeartbeats 4000000
/-! MPS: sets of texts: set(seq) and, around it, sorted(..) and len(..) -/
namespace MP
open PySem PySem.Spec PyProof.Rows L2

/-- the text of an entry -/
def kS (e : Int × Value) : Str := match e.2 with
  | .str k _ => k
  | _ => Str.empty
def okS (w : World) (e : Int × Value) : Prop := ∃ k tk, e.2 = Value.str k tk ∧ e.1 = hashStr w k
/-- at a stands the set of the texts ks, each once -/
def SetS (w : World) (ks : List Str) (a : Addr) (h : Heap) : Prop :=
  ∃ o es ep t, h.get? a = some o ∧ o.ExactSet ∧ o.data = .set es ep t ∧ (∀ e ∈ es.toList, okS w e) ∧ (es.toList.map kS).Perm ks ∧ ks.Nodup ∧
    es.size < scanBound ∧ t.fits es.size = true ∧ Ris t.place.toList ∧ (w.params.followText "set-order" = true ∨ t.led = true)
def putS (ks : List Str) (k : Str) : List Str := if k ∈ ks then ks else ks ++ [k]
def ddS (xs : List Str) : List Str := xs.foldl putS []
theorem putS_nodup {ks : List Str} {k : Str} (h : ks.Nodup) : (putS ks k).Nodup := by
  unfold putS
  split
  · exact h
  · rename_i hn
    rw [List.nodup_append]
    exact ⟨h, by simp, fun a ha b hb => by
      have e : b = k := by simpa using hb
      subst e
      exact fun z => hn (z ▸ ha)⟩
theorem putS_mem {ks : List Str} {k x : Str} : x ∈ putS ks k ↔ x ∈ ks ∨ x = k := by
  unfold putS
  split
  · rename_i h
    exact ⟨.inl, fun z => z.elim id fun e => e ▸ h⟩
  · simp
theorem putS_len (ks : List Str) (k : Str) : (putS ks k).length ≤ ks.length + 1 := by
  unfold putS
  split <;> simp
theorem fold_nodup : ∀ (xs ks : List Str), ks.Nodup → (xs.foldl putS ks).Nodup
  | [], _, h => h
  | x :: xs, ks, h => fold_nodup xs _ (putS_nodup h)
theorem fold_mem : ∀ (xs ks : List Str) (y : Str), y ∈ xs.foldl putS ks ↔ y ∈ ks ∨ y ∈ xs
  | [], ks, y => by simp
  | x :: xs, ks, y => by
    rw [List.foldl_cons, fold_mem xs, putS_mem, List.mem_cons, or_assoc]
theorem fold_len : ∀ (xs ks : List Str), (xs.foldl putS ks).length ≤ ks.length + xs.length
  | [], ks => Nat.le_refl _
  | x :: xs, ks => by
    have h := fold_len xs (putS ks x)
    have h2 := putS_len ks x
    rw [List.foldl_cons, List.length_cons]
    omega
theorem ddS_nodup (xs : List Str) : (ddS xs).Nodup := fold_nodup xs [] .nil
theorem ddS_mem (xs : List Str) (y : Str) : y ∈ ddS xs ↔ y ∈ xs := by
  unfold ddS
  rw [fold_mem]
  simp
theorem ddS_len (xs : List Str) : (ddS xs).length ≤ xs.length := by
  have h := fold_len xs []
  simpa [ddS] using h
theorem ddS_take_succ {xs : List Str} {i : Nat} (h : i < xs.length) : ddS (xs.take (i + 1)) = putS (ddS (xs.take i)) (xs.getD i Str.empty) := by
  have e : xs.take (i + 1) = xs.take i ++ [xs.getD i Str.empty] := by
    rw [List.take_add_one, List.getElem?_eq_getElem h, List.getD_eq_getElem?_getD, List.getElem?_eq_getElem h]
    rfl
  rw [e]
  unfold ddS
  rw [List.foldl_append]
  rfl
section
variable {P : Program} {w : World} {h h' : Heap} {a : Addr} {ks : List Str}
theorem SetS.at (R : SetS w ks a h) (k : ∀ o, h.get? a = some o → h'.get? a = some o) : SetS w ks a h' := by
  obtain ⟨o, es, ep, t, ho, r⟩ := R
  exact ⟨o, es, ep, t, k o ho, r⟩
theorem okS_elems {l : List (Int × Value)} (g : ∀ e ∈ l, okS w e) : ElemsOf (PySem.strKind P w) l := fun e he => by
  obtain ⟨k, tk, h1, h2⟩ := g e he
  exact ⟨⟨k, by rw [h1]; exact strKind_is P w k tk, h2⟩, by rw [h1] <;> rfl⟩
theorem okS_is {e : Int × Value} (g : okS w e) (k : Str) : (PySem.strKind P w).is k e.2 = true ↔ kS e = k := by
  obtain ⟨k0, tk, h1, _⟩ := g
  unfold kS
  rw [h1]
  constructor
  · intro q
    obtain ⟨t, ht⟩ := Value.isStrOf_shape (show Value.isStrOf k (Value.str k0 tk) = true from q)
    injection ht
  · intro q
    subst q
    exact strKind_is P w k0 tk
theorem okS_mem {l : List (Int × Value)} (g : ∀ e ∈ l, okS w e) (k : Str) : k ∈ l.map kS ↔ ∃ e ∈ l, (PySem.strKind P w).is k e.2 = true := by
  rw [List.mem_map]
  exact ⟨fun ⟨e, he, q⟩ => ⟨e, he, (okS_is (g e he) k).2 q⟩, fun ⟨e, he, q⟩ => ⟨e, he, (okS_is (g e he) k).1 q⟩⟩
end
section
variable {P : Program} {w : World} {A : Around} {E : Value → Shared → Prop} {s : Shared} {a : Addr} {ks : List Str}
theorem setS_tail {g : Bool → Sem Unit} (hg : ∀ (b : Bool) (s₁ : Shared) (Q' : Unit → Shared → Prop), Q' () s₁ → wpAny (model P w) A (g b) Q' E s₁)
    {o : Obj} {es : Array (Int × Value)} {ep : Nat} {t : SetTable} (ho : s.heap.get? a = some o) (hex : o.ExactSet) (hd : o.data = .set es ep t)
    {es1 : Array (Int × Value)} {t2 : SetTable} {ks' : List Str} (g1 : ∀ e ∈ es1.toList, okS w e) (m1 : (es1.toList.map kS).Perm ks') (nd1 : ks'.Nodup)
    (hb1 : es1.size < scanBound) (hf2 : t2.fits es1.size = true) (hr : Ris t2.place.toList) (hl : w.params.followText "set-order" = true ∨ t2.led = true) {wasDummy : Bool} {R : Option Bool → Shared → Prop}
    (hR : ∀ h', Heap.SameBut a s.heap h' → SetS w ks' a h' → R (some true) { s with heap := h' }) :
    wpAny (model P w) A (do
        storeSet a es1 t2
        if (!wasDummy && t2.tooFull) = true then do
            g (relayAll t2 es1 (SetTable.grown es1.size)).2.2
            storeSet a (relayAll t2 es1 (SetTable.grown es1.size)).1 (relayAll t2 es1 (SetTable.grown es1.size)).2.1
            pure (some true)
          else pure (some true)) R E s := by
  refine wpAny_bind (wpAny_storeSet_of ho hd ?_ (fits_of_scanBound hb1))
  have ho1 := store_at (es' := es1) (t' := t2) ho hd
  have sb1 := Heap.SameBut.update s.heap a (Obj.putSet es1 t2)
  by_cases hc : (!wasDummy && t2.tooFull) = true
  · rw [if_pos hc]
    have pm := relayAll_perm t2 es1 (SetTable.grown es1.size)
    have hf3 := relayAll_fits t2 es1 (SetTable.grown es1.size)
    have hr3 := relayAll_ris t2 es1 (SetTable.grown es1.size)
    have hl3 := relayAll_led t2 es1 (SetTable.grown es1.size)
    generalize relayAll t2 es1 (SetTable.grown es1.size) = Y at pm hf3 hr3 hl3 ⊢
    obtain ⟨es2, t3, gave⟩ := Y
    dsimp only at pm hf3 hr3 hl3 ⊢
    have hb2 : es2.size < scanBound := by
      have e : es2.size = es1.size := by rw [← Array.length_toList, pm.length_eq, Array.length_toList]
      rw [e]; exact hb1
    refine wpAny_bind (hg _ _ _ (wpAny_bind (wpAny_storeSet_of ho1 rfl ?_ (fits_of_scanBound hb2))))
    refine wpAny_pure (hR _ (sb1.trans (Heap.SameBut.update _ a _)) ?_)
    exact ⟨_, es2, _, t3, store_at (es' := es2) (t' := t3) ho1 rfl, hex, rfl, fun e he => g1 e (pm.mem_iff.mp he), (pm.map kS).trans m1, nd1, hb2, hf3, hr3, hl.imp id fun z => by rw [hl3]; exact z⟩
  · rw [if_neg hc]
    exact wpAny_pure (hR _ sb1 ⟨_, es1, _, t2, ho1, hex, rfl, g1, m1, nd1, hb1, hf2, hr, hl⟩)
theorem setS_add {k : Str} {tk : Tok} {Q : Bool → Shared → Prop} (R : SetS w ks a s.heap) (room : ks.length + 1 < scanBound)
    (hQ : ∀ b h', Heap.SameBut a s.heap h' → SetS w (putS ks k) a h' → Q b { s with heap := h' }) :
    wpAny (model P w) A (setAddHashed a (.str k tk) ((PySem.strKind P w).hash k)) Q E s := by
  obtain ⟨o, es, ep, t, ho, hex, hd, g, hm, nd, hb, hf, hr, hl⟩ := R
  have hsc : (Value.str k tk).scannable = true := rfl
  have hel : ElemsOf (PySem.strKind P w) es.toList := okS_elems g
  unfold setAddHashed setAddHashedIn
  refine wpAny_holding (wpAny_bind (wpAny_setState_of ho hd hf ?_))
  dsimp only
  rw [byScan_of hsc hb hel]
  simp only [↓reduceIte]
  unfold setAddByScan
  refine wpAny_bind ?_
  refine wpAny_bind (wpAny_rule ?_)
  refine wpAny_bind (wpAny_setScan_of (strKind_is P w k tk) ho hd hf hel ?_)
  cases hfi : List.findIdx? (fun e => (PySem.strKind P w).is k e.2) es.toList with
  | some j =>
    dsimp only
    obtain ⟨hj, pj, _⟩ := List.findIdx?_eq_some_iff_getElem.mp hfi
    have hk : k ∈ ks := hm.mem_iff.mp ((okS_mem (P := P) (w := w) g k).2 ⟨es.toList[j], List.getElem_mem hj, pj⟩)
    refine wpAny_pure (wpAny_pure (hQ _ s.heap (Heap.SameBut.refl a s.heap) ?_))
    have e : putS ks k = ks := if_pos hk
    rw [e]
    exact ⟨o, es, ep, t, ho, hex, hd, g, hm, nd, hb, hf, hr, hl⟩
  | none =>
    dsimp only
    have hnk : k ∉ ks := fun z => by
      obtain ⟨e, he, q⟩ := (okS_mem (P := P) (w := w) g k).1 (hm.mem_iff.mpr z)
      have c := List.findIdx?_eq_none_iff.mp hfi e he
      rw [q] at c
      cases c
    have hgw : ∀ (b : Bool) {s₁ : Shared} {Q' : Unit → Shared → Prop}, Q' () s₁ → wpAny (model P w) A (match b with | true => rule "set.scan.the-table-gave-way" | false => pure ()) Q' E s₁ :=
      fun b s₁ Q' q => by cases b <;> first | exact wpAny_pure q | exact wpAny_rule q
    have pm := layNew_perm t es ((PySem.strKind P w).hash k) (.str k tk)
    have hf1 := layNew_fits t es ((PySem.strKind P w).hash k) (.str k tk)
    have hr1 := layNew_ris t es ((PySem.strKind P w).hash k) (.str k tk) hr
    have hl1 := layNew_led t es ((PySem.strKind P w).hash k) (.str k tk)
    generalize layNew t es ((PySem.strKind P w).hash k) (.str k tk) = Y at pm hf1 hr1 hl1 ⊢
    obtain ⟨es1, t1, wasDummy, gave⟩ := Y
    dsimp only at pm hf1 hr1 hl1 ⊢
    rw [Array.toList_push] at pm
    have g1 : ∀ e ∈ es1.toList, okS w e := fun e he => by
      rcases List.mem_append.mp (pm.mem_iff.mp he) with z | z
      · exact g e z
      · rw [List.mem_singleton.mp z]; exact ⟨k, tk, rfl, rfl⟩
    have ep' : putS ks k = ks ++ [k] := if_neg hnk
    have m1 : (es1.toList.map kS).Perm (putS ks k) := by
      rw [ep']
      refine (pm.map kS).trans ?_
      rw [List.map_append]
      exact hm.append (List.Perm.refl _)
    have hsz : es1.size = ks.length + 1 := by
      have q := m1.length_eq
      rw [ep', List.length_map, Array.length_toList, List.length_append] at q
      exact q
    have hb1 : es1.size < scanBound := by rw [hsz]; exact room
    have hled : w.params.followText "set-order" = true ∨ t1.led = true := hl.imp id fun z => by rw [hl1]; exact z
    refine wpAny_bind (hgw _ ?_)
    split
    · refine wpAny_bind ?_
      rw [hashByValue_scannable 8 hsc]
      refine wpAny_pure ?_
      refine setS_tail ?_ ho hex hd g1 m1 (putS_nodup nd) hb1 ?_ ?_ ?_ ?_
      · intro b s₁ Q' q; cases b <;> first | exact wpAny_pure q | exact wpAny_rule q
      · first | (split <;> first | exact hf1 | exact SetTable.fits_plain_off hf1) | exact hf1
      · first | (split <;> exact hr1) | exact hr1
      · first | (split <;> exact hled) | exact hled
      · intro h' sb r; dsimp only; exact wpAny_pure (hQ _ h' sb r)
    · refine wpAny_bind (wpAny_pure ?_)
      simp only [↓reduceIte]
      refine setS_tail ?_ ho hex hd g1 m1 (putS_nodup nd) hb1 hf1 hr1 hled ?_
      · intro b s₁ Q' q; cases b <;> first | exact wpAny_pure q | exact wpAny_rule q
      · intro h' sb r; dsimp only; exact wpAny_pure (hQ _ h' sb r)
end
section
variable {prog : Program} {w : World} {A : Around} {R : Result → Shared → Prop} {I : Addr} {fp wr : List Addr} {G : Array GenState → Array GenState → Prop} {n : Nat} {P : Nat → Value → Prop} {St : Nat → Shared → Prop}
theorem loopS (W : WalksS prog w A.in1 I fp wr G n P St) (S : Addr) (hSf : S ∉ fp) (xs : List Str) (hsz : xs.length = n) (hroom : n + 1 < scanBound) (hval : ∀ i v, P i v → ∃ t, v = .str (xs.getD i Str.empty) t) :
    ∀ (k i : Nat) (s : Shared), n - i = k → i ≤ n → St i s → SetS w (ddS (xs.take i)) S s.heap →
      (∀ s', Moved (S :: wr) G s s' → SetS w (ddS xs) S s'.heap → R (.ok (.ret .none)) s') →
      codeAny (model prog w) A (.builtin "set.update.loop" ⟨[.ref S, .ref I], []⟩) R s := by
  have hSw : S ∉ wr := fun h => hSf (W.sub _ h)
  have hsub : ∀ b ∈ wr, b ∈ S :: wr := fun b hb => List.mem_cons_of_mem _ hb
  intro k
  induction k with
  | zero =>
    intro i s hk hi hst hS hR
    refine codeAny_builtin PyProof.Rows.F.entry_set_update_loop ?_
    rw [Around.under_plainId PyProof.Rows.F.plain_set_update_loop _]
    show wpAny _ A.in1 (pyNext (.ref I) >>= _) _ _ s
    have hin : i = n := by omega
    subst hin
    refine wpAny_bind (W.done s _ _ hst fun s' hm => ?_)
    show wpAny _ A.in1 (ret Value.none) _ _ s'
    rw [← hsz, List.take_length] at hS
    exact wpAny_pure (hR s' (hm.mono hsub) (hS.at fun o e => hm.heap S _ hSw e))
  | succ k ih =>
    intro i s hk hi hst hS hR
    have hlt : i < n := by omega
    refine codeAny_builtin PyProof.Rows.F.entry_set_update_loop ?_
    rw [Around.under_plainId PyProof.Rows.F.plain_set_update_loop _]
    show wpAny _ A.in1 (pyNext (.ref I) >>= _) _ _ s
    refine wpAny_bind (W.item i s _ _ hlt hst fun v s' hP hst' hm => ?_)
    obtain ⟨t, rfl⟩ := hval i v hP
    have hS' := hS.at (h' := s'.heap) fun o e => hm.heap S _ hSw e
    show wpAny _ A.in1 (holding [Value.str (xs.getD i Str.empty) t] (setAdd S (.str (xs.getD i Str.empty) t)) >>= _) _ _ s'
    refine wpAny_bind (wpAny_holding ?_)
    unfold setAdd
    refine wpAny_holding (wpAny_bind ((PySem.strKind prog w).pyHash (k := xs.getD i Str.empty) (strKind_is _ _ _ _) ?_))
    have hl : (ddS (xs.take i)).length + 1 < scanBound := by
      have h1 := ddS_len (xs.take i)
      rw [List.length_take] at h1
      omega
    refine setS_add (s := { s' with toks := s'.toks + 1 }) hS' hl fun b h' hsb hS2 => ?_
    rw [← ddS_take_succ (by omega)] at hS2
    refine wpAny_pure ⟨plainId_quiet PyProof.Rows.F.plain_set_update_loop _, ih (i + 1) _ (by omega) hlt (W.frame _ s' _ _ hst' (Nat.le_succ _) fun b hb o e => ?_) hS2 fun s'' hm'' hS'' => ?_⟩
    · rw [hsb.2 b (fun h : b = S => hSf (by rw [← h]; exact hb))]; exact e
    · refine hR s'' (Moved.trans W.gtrans ((hm.mono hsub).then_heap (Nat.le_succ _) fun b o hb e => ?_) hm'') hS''
      rw [hsb.2 b (fun h : b = S => hb (by rw [h]; exact List.mem_cons_self))]; exact e
end
end MP

set_option Elab.async false
set_option linter.all false
set_option maxRecDepth 100000
set_option maxHeartbeats 4000000
/-! MPS2: set(list of texts), set(tuple of texts), sorted(a set of texts), len(a set of texts) -/
namespace MP
open PySem PySem.Spec PyProof.Rows L2
section
variable {prog : Program} {w : World} {A : Around} {E : Value → Shared → Prop} {s : Shared}
abbrev newSet (w : World) : Obj := { cls := .type "set", dict := none, data := .set #[] 0 (.fresh 0 0 (!w.params.followText "set-order")) }
theorem setS_fresh {h : Heap} (w : World) : SetS w [] h.objs.size (h.push (newSet w)) :=
  ⟨_, #[], 0, _, Heap.get?_push_size _ rfl, ⟨rfl, rfl, rfl⟩, rfl, (fun e he => by simp at he), (by simp), .nil, (by decide), (by rfl), List.Pairwise.nil, by
    show _ ∨ (!w.params.followText "set-order") = true
    cases w.params.followText "set-order"
    · exact .inr rfl
    · exact .inl rfl⟩
theorem code_set_led1 (x : Value) {Q₁ : Value → Shared → Prop} (h : Q₁ (.ref s.heap.objs.size) { s with heap := s.heap.push (newSet w) }) :
    codeAny (model prog w) A (.call (.builtin "set.__new__") ⟨[.type "set", x], []⟩) (wants Q₁ E) s := by
  refine codeAny_of_tree ?_
  show wpAny _ A.in1 (do checkBuiltinCall "set.__new__" ⟨[.type "set", x], []⟩; again (.builtin "set.__new__" ⟨[.type "set", x], []⟩)) _ _ s
  refine wpAny_bind (wpAny_of_eq (PySem.F.newCall_set_1 x) (wpAny_pure ⟨plainId_quiet PySem.F.plain_set_new _, codeAny_builtin PySem.F.entry_set_new ?_⟩))
  rw [Around.under_plainId PySem.F.plain_set_new _]
  unfold Builtin.«set.__new__» Builtin.Frozenset.newClass
  have hsub := sub_set_self
  obtain ⟨hp, g, d, tk, os⟩ := s
  dsimp only
  wp_walk
  refine wpAny_askSetting (wpAny_pure ?_)
  dsimp only
  simp only [newObj]
  refine wpAny_bind (wpAny_alloc (wpAny_pure ?_))
  exact wpAny_pure h
/-- set(x), by what set.__init__ makes of x -/
theorem set_by {x : Value} {Q : Value → Shared → Prop} {Ψ : Heap → Prop}
    (hin : ∀ R : Fin → Shared → Prop, (∀ h' tk, Ψ h' → R (.done (.ret .none)) { s with heap := h', toks := tk }) → wpAny (model prog w) A.in1.in1 (Builtin.«set.__init__» ⟨[.ref s.heap.objs.size, x], []⟩) R E { s with heap := s.heap.push (newSet w) })
    (h : ∀ h' tk, Ψ h' → Q (.ref s.heap.objs.size) { s with heap := h', toks := tk }) : wpAny (model prog w) A (call (.type "set") [x]) Q E s := by
  obtain ⟨c, tl, hmro⟩ := PySem.F.called_set.mro
  have hmade := PySem.F.called_set.made
  have hsub := PySem.F.called_set.sub
  refine wpAny_call (codeAny_of_tree ?_)
  show wpAny _ _ (callAny (.type "set") _) _ _ _
  refine wpAny_pure ⟨Code.quiet_builtin _ (by decide +kernel), codeAny_builtin PySem.F.entry_type_call ?_⟩
  rw [Around.under_plain (weight_type_call_type "set" [x] []) rfl]
  have h1 := PySem.F.called_set.notType
  have h2 := PySem.F.called_set.canCreate
  have hct := PySem.F.typeCall_set_1 x
  repeat (any_goals (first | assumption | wp_step))
  refine codeAny_mono (code_set_led1 x (E := E) (Q₁ := fun obj s₁ => obj = .ref s.heap.objs.size ∧ s₁ = { s with heap := s.heap.push (newSet w) }) ⟨rfl, rfl⟩) fun r s₁ hr => ?_
  cases r with
  | error e => exact hr
  | ok fl =>
    cases fl with
    | ret obj =>
      obtain ⟨rfl, rfl⟩ := hr
      have hS : (s.heap.push (newSet w)).get? s.heap.objs.size = some (newSet w) := Heap.get?_push_size _ rfl
      have hT : Shared.TypeIs { s with heap := s.heap.push (newSet w) } (.ref s.heap.objs.size) "set" := ⟨_, hS, rfl⟩
      have hli := PySem.F.called_set.init.lookup
      have hbi := PySem.F.called_set.init.bind (.ref s.heap.objs.size)
      repeat (any_goals (first | assumption | wp_step))
      refine codeAny_mono (codeAny_call_builtin (R := wants (fun r s₂ => r = .none ∧ ∃ h' tk, s₂ = { s with heap := h', toks := tk } ∧ Ψ h') E) PySem.F.called_set.init.plain PySem.F.entry_set_init (check_set_init_1 hT ?_)) fun r₂ s₂ hr₂ => ?_
      · refine hin _ fun h' tk p => ?_
        exact ⟨rfl, h', tk, rfl, p⟩
      · cases r₂ with
        | error e => exact hr₂
        | ok fl₂ =>
          cases fl₂ with
          | ret r =>
            obtain ⟨rfl, h', tk, rfl, p⟩ := hr₂
            repeat (any_goals (first | assumption | wp_step))
            exact h _ _ p
          | _ => exact hr₂.elim
    | _ => exact hr.elim
/-- the sets of texts that set.__init__ lays down -/
def InitS (w : World) (s : Shared) (xs : List Str) : Heap → Prop := fun h' => SetS w (ddS xs) s.heap.objs.size h' ∧ ∀ b o, b < s.heap.objs.size → s.heap.get? b = some o → h'.get? b = some o
theorem init_fin {R : Fin → Shared → Prop} {xs : List Str} {I : Addr} {G : Array GenState → Array GenState → Prop} {s' : Shared} {ob : Obj} (hI : I = s.heap.objs.size + 1) (eg : s'.gens = s.gens) (ed : s'.drawn = s.drawn) (eo : s'.os = s.os)
    (hk : ∀ b o, b ∉ [s.heap.objs.size, I] → ((s.heap.push (newSet w)).push ob).get? b = some o → s'.heap.get? b = some o) (hS' : SetS w (ddS xs) s.heap.objs.size s'.heap)
    (hR : ∀ h' tk, InitS w s xs h' → R (.done (.ret .none)) { s with heap := h', toks := tk }) : R (.done (.ret .none)) s' := by
  obtain ⟨h', g', d', tk', os'⟩ := s'
  cases eg
  cases ed
  cases eo
  refine hR h' tk' ⟨hS', fun b o hb e => hk b o ?_ (Heap.get?_push_of_some _ (Heap.get?_push_of_some _ e))⟩
  subst hI
  simp only [List.mem_cons, List.not_mem_nil, or_false, not_or]
  exact ⟨Nat.ne_of_lt hb, Nat.ne_of_lt (Nat.lt_succ_of_lt hb)⟩
theorem initS_list {l : Addr} {items : Array Value} {xs : List Str} (hh : A.handled = none) (hl : s.heap.IsList l items) (hi : StrsAre items.toList xs) (hb : items.size + 1 < scanBound) (R : Fin → Shared → Prop)
    (hR : ∀ h' tk, InitS w s xs h' → R (.done (.ret .none)) { s with heap := h', toks := tk }) : wpAny (model prog w) A.in1.in1 (Builtin.«set.__init__» ⟨[.ref s.heap.objs.size, .ref l], []⟩) R E { s with heap := s.heap.push (newSet w) } := by
  obtain ⟨ol, hol, hcl, nl, hdl⟩ := hl
  obtain ⟨ocls, odict, odata, oslots⟩ := ol
  simp only at hcl hdl
  subst hcl hdl
  have hS : (s.heap.push (newSet w)).get? s.heap.objs.size = some (newSet w) := Heap.get?_push_size _ rfl
  have hol' : (s.heap.push (newSet w)).get? l = some { cls := .type "list", dict := odict, data := .seq items nl, slots := oslots } := Heap.get?_push_of_some _ hol
  have hsls := PySem.F.sub_list_set
  have hslf := PySem.F.sub_list_frozenset
  have hne : (Value.type "list" == Value.type "dict") = false := by decide
  have hl1 : (s.heap.push (newSet w)).IsList l items := ⟨_, hol', rfl, nl, rfl⟩
  unfold Builtin.«set.__init__» noKeywords Builtin.Frozenset.updateFrom
  generalize hPI : pyIter = PI
  wp_walk
  subst hPI
  refine wpAny_pyIter_list hl1 ?_
  refine wpAny_bind (wpAny_runValue ?_)
  have hlS : l < s.heap.objs.size := Heap.lt_size hol
  have hh3 : A.in1.in1.in1.handled = none := by simp [hh]
  have hsz1 : (s.heap.push (newSet w)).objs.size = s.heap.objs.size + 1 := Heap.size_push _ _
  have hsz : xs.length = items.size := by rw [← StrsAre.len_eq hi, Array.length_toList]
  refine loopS ((Walks.list hh3 _ l (by rw [hsz1]; exact Nat.ne_of_lt (Nat.lt_succ_of_lt hlS)) items).toS) s.heap.objs.size (by rw [hsz1]; simp only [List.mem_cons, List.not_mem_nil, or_false, not_or]; exact ⟨Nat.ne_of_lt (Nat.lt_succ_self _), Nat.ne_of_gt hlS⟩) xs hsz hb (fun i v hv => SS.strs_at hi i v (by rw [Array.getElem?_toList]; exact hv))
    (items.size - 0) 0 _ (by omega) (Nat.zero_le _) ⟨⟨_, Heap.get?_push_size _ rfl, rfl, rfl⟩, (hl1.push _)⟩ ((setS_fresh w).at fun o e => Heap.get?_push_of_some _ e) fun s' hm hS' => ?_
  show wpAny _ _ _ _ _ _
  refine wpAny_pure ?_
  show wpAny _ _ (ret Value.none) _ _ _
  exact wpAny_pure (init_fin (G := fun _ _ => True) hsz1 hm.gens hm.drawn hm.os hm.heap hS' hR)
theorem initS_tuple {l : Addr} {items : Array Value} {xs : List Str} (hh : A.handled = none) (hl : s.heap.IsTuple l items) (hi : StrsAre items.toList xs) (hb : items.size + 1 < scanBound) (R : Fin → Shared → Prop)
    (hR : ∀ h' tk, InitS w s xs h' → R (.done (.ret .none)) { s with heap := h', toks := tk }) : wpAny (model prog w) A.in1.in1 (Builtin.«set.__init__» ⟨[.ref s.heap.objs.size, .ref l], []⟩) R E { s with heap := s.heap.push (newSet w) } := by
  obtain ⟨ol, hol, hcl, nl, hdl⟩ := hl
  obtain ⟨ocls, odict, odata, oslots⟩ := ol
  simp only at hcl hdl
  subst hcl hdl
  have hS : (s.heap.push (newSet w)).get? s.heap.objs.size = some (newSet w) := Heap.get?_push_size _ rfl
  have hol' : (s.heap.push (newSet w)).get? l = some { cls := .type "tuple", dict := odict, data := .seq items nl, slots := oslots } := Heap.get?_push_of_some _ hol
  have hsls := PySem.F.sub_tuple_set
  have hslf := PySem.F.sub_tuple_frozenset
  have hne : (Value.type "tuple" == Value.type "dict") = false := by decide
  have hl1 : (s.heap.push (newSet w)).IsTuple l items := ⟨_, hol', rfl, nl, rfl⟩
  unfold Builtin.«set.__init__» noKeywords Builtin.Frozenset.updateFrom
  generalize hPI : pyIter = PI
  wp_walk
  subst hPI
  refine wpAny_pyIter_tuple hl1 ?_
  refine wpAny_bind (wpAny_runValue ?_)
  have hlS : l < s.heap.objs.size := Heap.lt_size hol
  have hh3 : A.in1.in1.in1.handled = none := by simp [hh]
  have hsz1 : (s.heap.push (newSet w)).objs.size = s.heap.objs.size + 1 := Heap.size_push _ _
  have hsz : xs.length = items.size := by rw [← StrsAre.len_eq hi, Array.length_toList]
  refine loopS ((Walks.tuple hh3 _ l (by rw [hsz1]; exact Nat.ne_of_lt (Nat.lt_succ_of_lt hlS)) items).toS) s.heap.objs.size (by rw [hsz1]; simp only [List.mem_cons, List.not_mem_nil, or_false, not_or]; exact ⟨Nat.ne_of_lt (Nat.lt_succ_self _), Nat.ne_of_gt hlS⟩) xs hsz hb (fun i v hv => SS.strs_at hi i v (by rw [Array.getElem?_toList]; exact hv))
    (items.size - 0) 0 _ (by omega) (Nat.zero_le _) ⟨⟨_, Heap.get?_push_size _ rfl, rfl, rfl⟩, (hl1.push _)⟩ ((setS_fresh w).at fun o e => Heap.get?_push_of_some _ e) fun s' hm hS' => ?_
  show wpAny _ _ _ _ _ _
  refine wpAny_pure ?_
  show wpAny _ _ (ret Value.none) _ _ _
  exact wpAny_pure (init_fin (G := fun _ _ => True) hsz1 hm.gens hm.drawn hm.os hm.heap hS' hR)
/-- the texts behind a list of values -/
theorem strs_perm {vs : List Value} {l : List (Int × Value)} {ks : List Str} (g : ∀ e ∈ l, okS w e) (pm : vs.Perm (l.map (·.2))) (hk : (l.map kS).Perm ks) : ∃ ss, StrsAre vs ss ∧ ss.Perm ks := by
  have go : ∀ us : List Value, (∀ u ∈ us, ∃ k t, u = Value.str k t) → StrsAre us (us.map fun u => match u with | .str k _ => k | _ => Str.empty) := fun us => by
    induction us with
    | nil => intro _; exact .nil
    | cons u us ih =>
      intro h
      obtain ⟨k, t, rfl⟩ := h u List.mem_cons_self
      exact .cons k t (ih fun x hx => h x (List.mem_cons_of_mem _ hx))
  refine ⟨_, go vs fun u hu => ?_, ?_⟩
  · obtain ⟨e, he, q⟩ := List.mem_map.mp (pm.mem_iff.mp hu)
    obtain ⟨k, t, h1, _⟩ := g e he
    exact ⟨k, t, by rw [← q, h1]⟩
  · have q := pm.map fun u => (match u with | .str k _ => k | _ => Str.empty : Str)
    rw [List.map_map] at q
    exact q.trans hk
theorem sortedS_of {a : Addr} {ks : List Str} {Q : Value → Shared → Prop} (R : SetS w ks a s.heap) (hh : A.handled = none)
    (hQ : ∀ s' p (out : Array Value) (c : Nat) (ss : List Str), (∀ b o, s.heap.get? b = some o → s'.heap.get? b = some o) → s'.gens = s.gens → s'.os = s.os → s.heap.objs.size ≤ p →
      s'.heap.get? p = some (seqObj "list" out c) → StrsAre out.toList ss → ss.Perm ks → sortedS ss = true → Q (.ref p) s') :
    wpAny (model prog w) A (call (.builtin "sorted") [.ref a]) Q E s := by
  obtain ⟨o, es, ep, t, ho, hex, hd, g, hm, nd, hb, hf, hr, hl⟩ := R
  refine Calls.call_function_entry kind_sorted plain_sorted entry_sorted (args_sorted1 _) ?_
  unfold Builtin.«sorted»
  refine wpAny_bind (m := checkCount "sorted" 1 1 _) (wpAny_pure ?_)
  refine wpAny_bind (collect_set (A := A.in1) hh ⟨o, ho, hex.1, hd⟩ hf hb hr hl fun s1 vs k1 hz g1 o1 pm => ?_)
  obtain ⟨ss, hS, hp⟩ := strs_perm g pm hm
  have hvl : vs.length ≤ sizeLine := by
    rw [pm.length_eq, List.length_map, Array.length_toList, sizeLine_eq]
    unfold scanBound at hb
    omega
  refine wpAny_bind (wpAny_newList ?_ hvl)
  have hoL : (s1.heap.push (seqObj "list" vs.toArray 0)).get? s1.heap.objs.size = some (seqObj "list" vs.toArray 0) := Heap.get?_push_size _ rfl
  refine wpAny_bind (wpAny_holding (wpAny_call_entry slot_list_sort ⟨_, hoL, rfl⟩ entry_list_sort (list_sort_treeKAny strKind_oneLt hoL hS.keysOf (fun v₁ v₂ rest e => keyKind_strs (by rw [← e]; exact hS)) hvl fun st' hpp hs => ⟨_, rfl, ?_⟩) (args_list_sort _)))
  obtain ⟨ss', h1, h2, h3⟩ := sorted_out_str hS hpp hs
  obtain ⟨c, hc⟩ := sortedHeap_at (vs := vs) (out := (arrOf st').map (·.2)) hoL
  refine wpAny_pure ⟨_, rfl, hQ _ s1.heap.objs.size _ c ss' (fun b u e => ?_) g1 o1 hz hc h1 (h2.trans hp) h3⟩
  have q := k1 b u e
  have hlt := Heap.lt_size q
  show (sortedHeap (s1.heap.push (seqObj "list" vs.toArray 0)) s1.heap.objs.size vs _).get? b = some u
  rw [sortedHeap_old (Nat.ne_of_lt hlt) (by rw [size_push']; exact Nat.lt_succ_of_lt hlt)]
  exact Heap.get?_push_of_some _ q
end
end MP

set_option Elab.async false
set_option linter.all false
set_option maxRecDepth 100000
set_option maxHeartbeats 4000000
/-! MPS3: sorted(set(x)), len(set(x)), sorted(texts), join -/
namespace MP
open PySem PySem.Spec PyProof.Rows L2
/-! ### the one order of texts -/
def leS (x y : Str) : Prop := x.cps.toList ≤ y.cps.toList
instance (x y : Str) : Decidable (leS x y) := by unfold leS; infer_instance
theorem leS_trans {x y z : Str} (a : leS x y) (b : leS y z) : leS x z := List.le_trans a b
theorem leS_total (x y : Str) : leS x y ∨ leS y x := List.le_total _ _
theorem leS_anti {x y : Str} (a : leS x y) (b : leS y x) : x = y := by
  obtain ⟨⟨l⟩⟩ := x
  obtain ⟨⟨m⟩⟩ := y
  have h : l = m := List.le_antisymm (show l ≤ m from a) (show m ≤ l from b)
  rw [h]
def insS (x : Str) : List Str → List Str
  | [] => [x]
  | y :: l => if leS x y then x :: y :: l else y :: insS x l
def srt : List Str → List Str
  | [] => []
  | x :: l => insS x (srt l)
theorem insS_perm (x : Str) : ∀ l, (insS x l).Perm (x :: l)
  | [] => .refl _
  | y :: l => by
    unfold insS
    split
    · exact .refl _
    · exact ((insS_perm x l).cons y).trans (.swap x y l)
theorem srt_perm : ∀ l, (srt l).Perm l
  | [] => .refl _
  | x :: l => (insS_perm x _).trans ((srt_perm l).cons x)
theorem insS_le {x z : Str} (hz : leS z x) : ∀ {l : List Str}, (∀ y ∈ l, leS z y) → ∀ y ∈ insS x l, leS z y := fun {l} h y hy => by
  have := (insS_perm x l).mem_iff.mp hy
  rcases List.mem_cons.mp this with e | e
  · rw [e]; exact hz
  · exact h y e
theorem insS_pw (x : Str) : ∀ {l : List Str}, l.Pairwise leS → (insS x l).Pairwise leS
  | [], _ => .cons (fun _ h => nomatch h) .nil
  | y :: l, h => by
    obtain ⟨h1, h2⟩ := List.pairwise_cons.mp h
    unfold insS
    split
    · rename_i q
      exact .cons (fun z hz => (List.mem_cons.mp hz).elim (fun e => e ▸ q) fun e => leS_trans q (h1 z e)) h
    · rename_i q
      exact .cons (insS_le ((leS_total x y).resolve_left q) h1) (insS_pw x h2)
theorem srt_pw : ∀ l, (srt l).Pairwise leS
  | [] => .nil
  | x :: l => insS_pw x (srt_pw l)
theorem rising_pw : ∀ (l : List Str) (p : Str), risingS p l = true → (p :: l).Pairwise leS
  | [], p, _ => .cons (fun _ h => nomatch h) .nil
  | x :: l, p, h => by
    have e : risingS p (x :: l) = (if ltCps x.cps.toList p.cps.toList = true then false else risingS x l) := by
      cases q : ltCps x.cps.toList p.cps.toList <;> simp [risingS, q]
    rw [e] at h
    split at h
    · cases h
    · rename_i q
      rw [ltCps_eq, decide_eq_true_eq] at q
      have ih := rising_pw l x h
      have hpx : leS p x := List.not_lt.mp q
      exact .cons (fun z hz => (List.mem_cons.mp hz).elim (fun e => e ▸ hpx) fun e => leS_trans hpx ((List.pairwise_cons.mp ih).1 z e)) ih
theorem sorted_pw {l : List Str} (h : sortedS l = true) : l.Pairwise leS := by
  cases l with
  | nil => exact .nil
  | cons x l => exact rising_pw l x h
theorem sorted_eq {l m : List Str} (h : sortedS l = true) (p : l.Perm m) : l = srt m :=
  List.Perm.eq_of_pairwise (fun a b _ _ => leS_anti) (sorted_pw h) (srt_pw m) (p.trans (srt_perm m).symm)
theorem srt_congr {l m : List Str} (p : l.Perm m) : srt l = srt m :=
  List.Perm.eq_of_pairwise (fun a b _ _ => leS_anti) (srt_pw l) (srt_pw m) ((srt_perm l).trans (p.trans (srt_perm m).symm))
/-! ### texts among the values -/
def txts? : List D → Option (List Str)
  | [] => some []
  | .str s :: r => (txts? r).map (s :: ·)
  | _ :: _ => none
theorem txts_rp {K : PySem.W.Frag} {Z : Hp} {ι : List Addr} : ∀ {xs : List V} {ds : List D} {ss : List Str}, RpL K Z ι xs ds → txts? ds = some ss → xs = ss.map V.str
  | _, _, _, .nil, e => by cases e; rfl
  | _, _, _, .cons h q, e => by
    cases h with
    | @str s =>
      rename_i ds
      unfold txts? at e
      cases e2 : txts? ds with
      | none => rw [e2] at e; cases e
      | some t => rw [e2] at e; cases e; rw [txts_rp q e2]; rfl
    | _ => cases e
theorem strs_rp {K : PySem.W.Frag} {Z : Hp} {ι : List Addr} : ∀ ss : List Str, RpL K Z ι (ss.map V.str) (ss.map D.str)
  | [] => .nil
  | s :: ss => .cons (.str s) (strs_rp ss)
@[simp] theorem txts_map (ss : List Str) : txts? (ss.map D.str) = some ss := by
  induction ss with
  | nil => rfl
  | cons s ss ih => simp [txts?, ih]
/-! ### the rules below -/
def SetO' (w : World) (ks : List Str) (a : Addr) : HO := .ext (SetS w ks a)
section
variable {X : Cx}
theorem setO'_new {w : World} {P : Program} {H : Hp} {h : Heap} {a : Addr} {ks : List Str} (R : SetS w ks a h) : ObjOk P w H h a (SetO' w ks a) :=
  ⟨R, (let ⟨o, _, _, _, ho, _⟩ := R; ⟨o, ho⟩), fun h1 h2 p k => SetS.at p k⟩
def rSetS (K : PySem.W.Frag) (w : World) : List V → Hp → VK → Prop := fun xs H Q => ∃ (l : Addr) (ys : List Str), xs = [V.ref l] ∧ (SqL K H l (ys.map V.str) ∨ SqT K H l (ys.map V.str)) ∧ ys.length < 4000 ∧
  ∀ p, H p = none → Q (.ref p) (upd H p (SetO' w (ddS ys) p))
theorem cr_setS (hc : X.calm = true) : CallR X (.type "set") (rSetS X.K X.w) := by
  intro pins s σ H xs us Q I r h
  obtain ⟨l, ys, rfl, hq, hl, q⟩ := h
  rw [Vals.ref1 r]
  have hb : ∀ its : List Value, its.length = ys.length → its.toArray.size + 1 < scanBound := fun its e => by rw [List.size_toArray, e]; unfold scanBound; omega
  have fin : ∀ h' tk, InitS X.w s ys h' → EP X pins σ Q (.ref s.heap.objs.size) { s with heap := h', toks := tk } := fun h' tk p => by
    refine ⟨.ref s.heap.objs.size, upd H s.heap.objs.size (SetO' X.w (ddS ys) s.heap.objs.size), ?_, rfl, q _ (I.hok.fresh (Nat.le_refl _))⟩
    exact I.laid (a := s.heap.objs.size) (o := SetO' X.w (ddS ys) s.heap.objs.size) (t' := tk) (fun b o e => p.2 b o (Heap.lt_size e) e) (Nat.le_refl _) (setO'_new p.1)
  rcases hq with hq | hq
  · obtain ⟨its, rv, pl, hz⟩ := I.list hq
    have hs := strs_of_vals rv
    exact set_by (Ψ := InitS X.w s ys) (fun R hR => initS_list (I.ok.hd hc) pl.isList (by simpa using hs) (hb its (by rw [hs.len_eq])) R hR) fin
  · obtain ⟨its, rv, pl, hz⟩ := I.tuple hq
    have hs := strs_of_vals rv
    exact set_by (Ψ := InitS X.w s ys) (fun R hR => initS_tuple (I.ok.hd hc) pl (by simpa using hs) (hb its (by rw [hs.len_eq])) R hR) fin
def rSortO (w : World) : List V → Hp → VK → Prop := fun vs H Q => ∃ (a : Addr) (ks : List Str), vs = [V.ref a] ∧ H a = some (SetO' w ks a) ∧ ks.length < 4000 ∧ ∀ p, H p = none → Q (.ref p) (upd H p (.lst ((srt ks).map V.str)))
theorem cr_sortO (hc : X.calm = true) : CallR X (.builtin "sorted") (rSortO X.w) := by
  intro pins s σ H vs us Q I r h
  obtain ⟨a, ks, rfl, ha, hn, q⟩ := h
  rw [Vals.ref1 r]
  have R : SetS X.w ks a s.heap := (I.hok a _ ha).1
  refine sortedS_of R (I.ok.hd hc) fun s' p out c ss k g o hp hg hi hpm hs => ?_
  have es : ss = srt ks := sorted_eq hs hpm
  subst es
  have hlen : ((srt ks).map V.str).length ≤ sizeLine := by rw [List.length_map, hpm.length_eq, sizeLine_eq]; omega
  have hn : H p = none := I.hok.fresh hp
  have J : Inv X pins σ (upd H p (.lst ((srt ks).map V.str))) { s with heap := s'.heap, gens := s'.gens, drawn := s'.drawn, toks := s'.toks } :=
    I.call (ch := []) (Un.laid k hp hn) (I.hok.laid k hp ⟨hlen, out.toList, c, vals_of_strs hi, hg⟩) (by rw [g]; exact I.bare) (fun _ z => nomatch z)
  have e : s' = { s with heap := s'.heap, gens := s'.gens, drawn := s'.drawn, toks := s'.toks } := by
    obtain ⟨h', g', d', tk', os'⟩ := s'
    cases o
    rfl
  rw [e]
  exact ⟨.ref p, _, J, rfl, q p hn⟩
def rLenO (w : World) : List V → Hp → VK → Prop := fun vs H Q => ∃ (a : Addr) (ks : List Str), vs = [V.ref a] ∧ H a = some (SetO' w ks a) ∧ Q (.int ks.length) H
theorem cr_lenO : CallR X (.builtin "len") (rLenO X.w) := by
  intro pins s σ H vs us Q I r h
  obtain ⟨a, ks, rfl, ha, q⟩ := h
  rw [Vals.ref1 r]
  obtain ⟨o, es, ep, t, ho, hex, hd, g, hm, nd, hb, hf, hr, hl⟩ := (show SetS X.w ks a s.heap from (I.hok a _ ha).1)
  have hn : es.size = ks.length := by rw [← hm.length_eq, List.length_map, Array.length_toList]
  refine call_len_set ho hex hd hf (by unfold scanBound at hb; omega) ⟨.int ks.length, H, I.tok _, ⟨_, by rw [hn]⟩, q⟩
end
/-! ### readings -/
def txtsOf (s : Sto) (x : D) : Option (List Str) := match (items? s x).bind txts? with
  | some ss => if ss.length < 4000 then some ss else none
  | none => none
theorem txtsOf_inv {s : Sto} {x : D} {ss : List Str} (h : txtsOf s x = some ss) : ∃ ds, items? s x = some ds ∧ txts? ds = some ss ∧ ss.length < 4000 := by
  unfold txtsOf at h
  cases h1 : items? s x with
  | none => rw [h1] at h; cases h
  | some ds =>
    rw [h1] at h
    cases h2 : txts? ds with
    | none => simp [h2] at h
    | some t =>
      simp [h2] at h
      obtain ⟨h3, rfl⟩ := h
      exact ⟨ds, rfl, h2, h3⟩
def mSortSet (a : ME) : ME := fun ρ s => bnd (a ρ s) fun x s => match txtsOf s x with
  | some ss => some (.ok (.lst ((srt (ddS ss)).map .str)) s)
  | none => none
def mSortSetB (a : ME) : ME := fun ρ s => bnd (a ρ s) fun x s => match txtsOf s x with
  | some ss => some (.ok (.ref s.length) (s ++ [.lst ((srt (ddS ss)).map .str)]))
  | none => none
def mLenSet (a : ME) : ME := fun ρ s => bnd (a ρ s) fun x s => match txtsOf s x with
  | some ss => some (.ok (.int (ddS ss).length) s)
  | none => none
section
variable {X : Cx} {W : WX} {e : Expr} {p pos p2 pos2 : Pos} {me : ME}
theorem set_read {Q : V → Hp → Prop} {H1 Z1 : Hp} {ι1 : List Addr} {st1 : Sto} {v : V} {x : D} {ss : List Str} (r1 : Rel X.K st1 H1 Z1 ι1) (rx : Rp X.K Z1 ι1 v x) (hx : txtsOf st1 x = some ss)
    (k : ∀ p, H1 p = none → Q (.ref p) (upd H1 p (SetO' X.w (ddS ss) p))) : rSetS X.K X.w [v] H1 Q := by
  obtain ⟨ds, hi, ht, hl⟩ := txtsOf_inv hx
  obtain ⟨a, xs, rfl, hq, hr⟩ := items_sq r1 rx hi
  have e := txts_rp hr ht
  subst e
  exact ⟨a, ss, rfl, hq.elim .inr fun q => .inl (SqL.of q), hl, k⟩
theorem pe_setS (hc : X.calm = true) (hms : X.mg "set" = none) (h : Sd X W e me) (hg : Gl X "set" := by rfl)
    (he : starEach [e] X.env = (false, eval e X.env) :: starEach [] X.env := by rfl) (hpl : (backTo pos (starEach [] X.env)).any (·.1) = false := by rfl) :
    PE X (.Call (.Name "set" p) [e] [] pos) (tCB (rSetS X.K X.w) (tCons (rd X.K W me) tNil)) := pe_callTy (cr_setS hc) hg hms (by rfl) (pa_cons h pa_nil he) (by decide) (by decide) he hpl
theorem sd_sortSet (hc : X.calm = true) (hms : X.mg "set" = none) (hmo : X.mg "sorted" = none) (h : Sd X W e me) (hg : Gl X "set" := by rfl) (hg2 : Gl X "sorted" := by rfl)
    (he : starEach [e] X.env = (false, eval e X.env) :: starEach [] X.env := by rfl) (hpl : (backTo pos (starEach [] X.env)).any (·.1) = false := by rfl)
    (he2 : starEach [.Call (.Name "set" p) [e] [] pos] X.env = (false, eval (.Call (.Name "set" p) [e] [] pos) X.env) :: starEach [] X.env := by rfl) (hpl2 : (backTo pos2 (starEach [] X.env)).any (·.1) = false := by rfl) :
    Sd X W (.Call (.Name "sorted" p2) [.Call (.Name "set" p) [e] [] pos] [] pos2) (mSortSet me) := by
  refine pe_imp (pe_callB (cr_sortO hc) hg2 hmo (by rfl) (pa_cons (pe_setS (p := p) (pos := pos) hc hms h hg he hpl) pa_nil he2) (by decide) (by decide) he2 hpl2) fun σ H Q ⟨ρ, st, Z, ι, en, r0, p⟩ => ?_
  refine rdG.mono (kont en r0 p) fun v H1 ⟨st1, Z1, ι1, x, g1, e1, r1, rx, p1⟩ => ?_
  cases hx : txtsOf st1 x with
  | none => rw [hx] at p1; exact p1.elim
  | some ss =>
    rw [hx] at p1
    refine (show rSetS X.K X.w [v] H1 (fun x H1 => rSortO X.w [x] H1 Q) from set_read r1 rx hx fun n hn => ?_)
    obtain ⟨r2, g2⟩ := r1.junk (o := SetO' X.w (ddS ss) n) hn
    have hl : (ddS ss).length < 4000 := Nat.lt_of_le_of_lt (ddS_len ss) (txtsOf_inv hx).choose_spec.2.2
    refine ⟨n, ddS ss, rfl, upd_same, hl, fun m hm => ?_⟩
    obtain ⟨r3, g3⟩ := r2.zone (o := .lst ((srt (ddS ss)).map V.str)) hm
    exact p1 _ _ _ _ (g2.trans g3) r3 (.lst upd_same (strs_rp _))
theorem sd_sortSetB (hc : X.calm = true) (hms : X.mg "set" = none) (hmo : X.mg "sorted" = none) (h : Sd X W e me) (hg : Gl X "set" := by rfl) (hg2 : Gl X "sorted" := by rfl)
    (he : starEach [e] X.env = (false, eval e X.env) :: starEach [] X.env := by rfl) (hpl : (backTo pos (starEach [] X.env)).any (·.1) = false := by rfl)
    (he2 : starEach [.Call (.Name "set" p) [e] [] pos] X.env = (false, eval (.Call (.Name "set" p) [e] [] pos) X.env) :: starEach [] X.env := by rfl) (hpl2 : (backTo pos2 (starEach [] X.env)).any (·.1) = false := by rfl) :
    Sd X W (.Call (.Name "sorted" p2) [.Call (.Name "set" p) [e] [] pos] [] pos2) (mSortSetB me) := by
  refine pe_imp (pe_callB (cr_sortO hc) hg2 hmo (by rfl) (pa_cons (pe_setS (p := p) (pos := pos) hc hms h hg he hpl) pa_nil he2) (by decide) (by decide) he2 hpl2) fun σ H Q ⟨ρ, st, Z, ι, en, r0, p⟩ => ?_
  refine rdG.mono (kont en r0 p) fun v H1 ⟨st1, Z1, ι1, x, g1, e1, r1, rx, p1⟩ => ?_
  cases hx : txtsOf st1 x with
  | none => rw [hx] at p1; exact p1.elim
  | some ss =>
    rw [hx] at p1
    refine (show rSetS X.K X.w [v] H1 (fun x H1 => rSortO X.w [x] H1 Q) from set_read r1 rx hx fun n hn => ?_)
    obtain ⟨r2, g2⟩ := r1.junk (o := SetO' X.w (ddS ss) n) hn
    have hl : (ddS ss).length < 4000 := Nat.lt_of_le_of_lt (ddS_len ss) (txtsOf_inv hx).choose_spec.2.2
    refine ⟨n, ddS ss, rfl, upd_same, hl, fun m hm => ?_⟩
    obtain ⟨r3, g3, h3⟩ := box_lst r2 hm (strs_rp (srt (ddS ss)))
    exact p1 _ _ _ _ (g2.trans g3) r3 h3
theorem sd_lenSet (hc : X.calm = true) (hms : X.mg "set" = none) (hmo : X.mg "len" = none) (h : Sd X W e me) (hg : Gl X "set" := by rfl) (hg2 : Gl X "len" := by rfl)
    (he : starEach [e] X.env = (false, eval e X.env) :: starEach [] X.env := by rfl) (hpl : (backTo pos (starEach [] X.env)).any (·.1) = false := by rfl)
    (he2 : starEach [.Call (.Name "set" p) [e] [] pos] X.env = (false, eval (.Call (.Name "set" p) [e] [] pos) X.env) :: starEach [] X.env := by rfl) (hpl2 : (backTo pos2 (starEach [] X.env)).any (·.1) = false := by rfl) :
    Sd X W (.Call (.Name "len" p2) [.Call (.Name "set" p) [e] [] pos] [] pos2) (mLenSet me) := by
  refine pe_imp (pe_callB cr_lenO hg2 hmo (by rfl) (pa_cons (pe_setS (p := p) (pos := pos) hc hms h hg he hpl) pa_nil he2) (by decide) (by decide) he2 hpl2) fun σ H Q ⟨ρ, st, Z, ι, en, r0, p⟩ => ?_
  refine rdG.mono (kont en r0 p) fun v H1 ⟨st1, Z1, ι1, x, g1, e1, r1, rx, p1⟩ => ?_
  cases hx : txtsOf st1 x with
  | none => rw [hx] at p1; exact p1.elim
  | some ss =>
    rw [hx] at p1
    refine (show rSetS X.K X.w [v] H1 (fun x H1 => rLenO X.w [x] H1 Q) from set_read r1 rx hx fun n hn => ?_)
    obtain ⟨r2, g2⟩ := r1.junk (o := SetO' X.w (ddS ss) n) hn
    exact ⟨n, ddS ss, rfl, upd_same, p1 _ _ _ _ g2 r2 (.int _)⟩
end
/-- sep.join(x) -/
def bJoin (s : Sto) (x : D) : List D → Option (D × Sto)
  | [y] => match x, (items? s y).bind txts? with
    | .str a, some ss => if (ss.map (·.length)).sum + ss.length * a.length ≤ 16777216 then some (.str (Txt.join a ss), s) else none
    | _, _ => none
  | _ => none
theorem ms_join {K : PySem.W.Frag} : MethS K bJoin (fun x xs H Q => ∃ a p, ∃ ys : List Str, x = .str a ∧ xs = [.ref p] ∧ (SqL K H p (ys.map V.str) ∨ SqT K H p (ys.map V.str)) ∧ (ys.map (·.length)).sum + ys.length * a.length ≤ 16777216 ∧ Q (.str (Txt.join a ys)) H) := fun st st' x ds d v vs H Z ι Q hf r hx hv k => by
  cases hv with
  | nil => cases hf
  | @cons u _ y _ h q => cases q with
    | cons _ _ => cases hf
    | nil =>
      cases hx with
      | str a =>
        unfold bJoin at hf
        cases h1 : items? st y with
        | none => simp [h1] at hf
        | some ds => cases h2 : txts? ds with
          | none => simp [h1, h2] at hf
          | some ss =>
            simp [h1, h2] at hf
            obtain ⟨hl, rfl, rfl⟩ := hf
            obtain ⟨b, xs, rfl, hq, hr⟩ := items_sq r h h1
            have e := txts_rp hr h2
            subst e
            exact ⟨a, b, ss, rfl, rfl, hq.elim .inr fun q => .inl (SqL.of q), hl, k _ _ _ _ (Grow.refl _ _ _) r (.str _)⟩
      | _ => simp [bJoin] at hf
/-- sorted(x), x a list of texts -/
def gSortS (s : Sto) : List D → Option D
  | [x] => match (lst? s x).bind txts? with
    | some ss => if ss.length < 64 then some (.lst ((srt ss).map .str)) else none
    | none => none
  | _ => none
theorem cs_sortS {K : PySem.W.Frag} : CallS K (pu gSortS) (rSortedS K) := fun st st' ds d vs H Z ι Q hf r hv k => by
  obtain ⟨hf, rfl⟩ := pu_inv hf
  cases hv with
  | nil => cases hf
  | @cons v _ x _ h q => cases q with
    | cons _ _ => cases hf
    | nil =>
      unfold gSortS at hf
      cases h1 : lst? st' x with
      | none => simp [h1] at hf
      | some ds => cases h2 : txts? ds with
        | none => simp [h1, h2] at hf
        | some ss =>
          simp [h1, h2] at hf
          obtain ⟨hl, rfl⟩ := hf
          obtain ⟨a, xs, rfl, hH, hr⟩ := lst_sq r h h1
          have e := txts_rp hr h2
          subst e
          refine ⟨a, ss, rfl, SqL.of hH, hl, fun ys p hp hs hn => ?_⟩
          have e := sorted_eq hs hp
          subst e
          obtain ⟨r2, g2⟩ := r.zone (o := .lst ((srt ss).map V.str)) hn
          exact k _ _ _ _ g2 r2 (.lst upd_same (strs_rp _))
end MP

set_option Elab.async false
set_option linter.all false
set_option maxRecDepth 100000
set_option maxHeartbeats 4000000
/-! MPA: isinstance, dicts, written tables, repr -/
namespace MP
open PySem L2

/-! ### isinstance -/
inductive Kd where
  | t (s : String) | o (C : Str)
def kdD (s : Sto) : D → Option Kd
  | .non => some (.t "NoneType")
  | .bl _ => some (.t "bool")
  | .int _ => some (.t "int")
  | .str _ => some (.t "str")
  | .lst _ => some (.t "list")
  | .tup _ => some (.t "tuple")
  | .dct _ _ => some (.t "dict")
  | .scr _ => some (.t "list")
  | .ref n => match s[n]? with
    | some (.lst _) => some (.t "list")
    | some (.dct _) => some (.t "dict")
    | some (.ins C _) => some (.o C)
    | _ => none
def kdV (K : PySem.W.Frag) : Kd → Value
  | .t s => .type s
  | .o C => .ref (He.ga K C)
structure OwnOk (K : PySem.W.Frag) (C : Str) : Prop where
  cl : Cls K (He.ga K C)
  ha : PySem.W.findIn K (.ref (He.ga K C)) "__class__" = some (some (.builtin "object.__class__"))
  hn : PySem.W.specialIn K (.builtin "object.__class__") "__get__" = some (some (.builtin "getset_descriptor.__get__"))
  htk : PySem.W.takesIn K (.builtin "object.__class__") = some true
  hm : PySem.W.mroIn K (He.ga K C) (.type "object") = some true
def bNames : List String := ["NoneType", "bool", "int", "str", "list", "tuple", "dict"]
theorem kd_names {s : Sto} {d : D} {t : String} (h : kdD s d = some (.t t)) : t ∈ bNames := by
  cases d <;> unfold kdD at h
  case ref n =>
    dsimp only at h
    split at h <;> first | (cases h; done) | (injection h with h; injection h with h; subst h; decide)
  all_goals (injection h with h; injection h with h; subst h; decide)
theorem ty_of {K : PySem.W.Frag} {st : Sto} {H Z : Hp} {ι : List Addr} {v : V} {d : D} {k : Kd} (r : Rel K st H Z ι) (h : Rp K Z ι v d) (hk : kdD st d = some k) (ho : ∀ C, k = .o C → OwnOk K C) : TyX K H v (kdV K k) := by
  cases h with
  | non => cases hk; exact .base .non
  | bl b => cases hk; exact .base (.bl b)
  | int i => cases hk; exact .base (.int i)
  | str s => cases hk; exact .base (.str s)
  | lst h _ => cases hk; exact .base (.lst (r.zin _ _ h))
  | tup h _ =>
    cases hk
    rcases same_sqt r.zin h with (h | ⟨o, h⟩) | h
    · exact .base (.tup h)
    · exact .fTuple h
    · obtain ⟨o, its, n, h1, h2, _⟩ := h
      exact .kTuple h1 h2
  | dct _ h _ => cases hk; exact .base (.dK (r.zin _ _ h))
  | scr h =>
    cases hk
    rcases same_sql r.zin h with (h | ⟨o, h⟩) | h
    · exact .base (.lst h)
    · exact .base (.frz h)
    · obtain ⟨o, its, n, h1, h2, _⟩ := h
      exact .kList h1 h2
  | @ref n a hn =>
    unfold kdD at hk
    dsimp only at hk
    obtain ⟨o, hs, hob⟩ := r.at_ hn
    rw [hs] at hk
    cases o with
    | gone => cases hk
    | lst l => cases hk; obtain ⟨_, xs, e, _⟩ := hob; exact .base (.lst e)
    | dct l => cases hk; obtain ⟨_, xs, e, _⟩ := hob; exact .base (.dK e)
    | ins C fs =>
      cases hk
      obtain ⟨_, dx, gs, e, _⟩ := hob
      obtain ⟨cl, ha, hn, htk, hm⟩ := ho C rfl
      exact .base (.ins e cl ha hn htk hm)
def mIsi (f : Kd → Option Bool) (a : ME) : ME := fun ρ s => bnd (a ρ s) fun x s => match (kdD s x).bind f with
  | some b => some (.ok (.bl b) s)
  | none => none
/-- f answers isinstance with one of the classes us -/
def IsiS (K : PySem.W.Frag) (us : List Value) (f : Kd → Option Bool) : Prop := ∀ k b, f k = some b → (∀ t, k = .t t → t ∈ bNames) → PySem.W.kitAny K (kdV K k) us = some b ∧ ∀ C, k = .o C → OwnOk K C
def isB (a c : String) : Bool := a == c || (a == "bool" && c == "int")
def fB (cs : List String) : Kd → Option Bool
  | .t s => some (cs.any fun c => isB s c)
  | .o _ => none
theorem kitB_tab : ∀ a ∈ bNames, ∀ c ∈ bNames, kitB a c = some (isB a c) := by decide +kernel
theorem isiS_B {K : PySem.W.Frag} (cs : List String) (hc : ∀ c ∈ cs, c ∈ bNames) : IsiS K (cs.map Value.type) (fB cs) := fun k b h hk => by
  cases k with
  | o C => cases h
  | t s =>
    refine ⟨?_, fun C e => nomatch e⟩
    have hs := hk s rfl
    injection h with h
    subst h
    show PySem.W.kitAny K (.type s) (cs.map Value.type) = _
    induction cs with
    | nil => rfl
    | cons c cs ih =>
      rw [List.map_cons, List.any_cons]
      refine kitAny_cons (b := isB s c) (kit_ty (kitB_tab s hs c (hc c List.mem_cons_self))) (fun e => ?_) (fun e => ?_)
      · rw [e, Bool.false_or]; exact ih fun x hx => hc x (List.mem_cons_of_mem _ hx)
      · rw [e]; rfl
section
variable {X : Cx} {W : WX} {e c c1 c2 : Expr} {p pos : Pos} {me : ME} {f : Kd → Option Bool}
theorem isi_one {K : PySem.W.Frag} {t u : Value} {b : Bool} (h : PySem.W.kitAny K t [u] = some b) : PySem.W.kitOne K t u = some b := by
  unfold PySem.W.kitAny at h
  cases e : PySem.W.kitOne K t u with
  | none => rw [e] at h; cases h
  | some k => rw [e] at h; cases k <;> cases h <;> rfl
theorem sd_isi {cv : V} {u : Value} (hcv : ClsV cv u) (hf : IsiS X.K [u] f) (h : Sd X W e me) (hc : PE X c (tC cv)) (hm : X.mg "isinstance" = none) (hg : Gl X "isinstance" := by rfl)
    (he : starEach [e, c] X.env = (false, eval e X.env) :: starEach [c] X.env := by rfl) (he2 : starEach [c] X.env = (false, eval c X.env) :: starEach [] X.env := by rfl) (hpl : (backTo pos (starEach [c] X.env)).any (·.1) = false := by rfl) :
    Sd X W (.Call (.Name "isinstance" p) [e, c] [] pos) (mIsi f me) := by
  refine pe_imp (pe_callB call_isi hg hm (by rfl) (pa_cons h (pa_cons hc pa_nil he2) he) (by decide) (by decide) he hpl) fun σ H Q ⟨ρ, st, Z, ι, en, r0, p⟩ => ?_
  refine rdG.mono (kont en r0 p) fun v H1 ⟨st1, Z1, ι1, x, g1, e1, r1, rx, p1⟩ => ?_
  show rIsi X.K [v, cv] H1 Q
  cases hk : kdD st1 x with
  | none => rw [hk] at p1; exact p1.elim
  | some k =>
    rw [hk] at p1
    dsimp only [Option.bind_some] at p1
    cases hb : f k with
    | none => rw [hb] at p1; exact p1.elim
    | some b =>
      rw [hb] at p1
      obtain ⟨h1, h2⟩ := hf k b hb fun t e => kd_names (e ▸ hk)
      exact ⟨v, cv, _, u, b, rfl, hcv, ty_of r1 rx hk h2, isi_one h1, p1 _ _ _ _ (Grow.refl _ _ _) r1 (.bl b)⟩
theorem sd_isi2 {cv cw : V} {u u2 : Value} {tp : Pos} {x1} (hcv : ClsV cv u) (hcw : ClsV cw u2) (hf : IsiS X.K [u, u2] f) (h : Sd X W e me) (hc : PE X c1 (tC cv)) (hd : PE X c2 (tC cw)) (hm : X.mg "isinstance" = none) (hg : Gl X "isinstance" := by rfl)
    (he : starEach [e, .Tuple [c1, c2] x1 tp] X.env = (false, eval e X.env) :: starEach [.Tuple [c1, c2] x1 tp] X.env := by rfl) (he2 : starEach [.Tuple [c1, c2] x1 tp] X.env = (false, eval (.Tuple [c1, c2] x1 tp) X.env) :: starEach [] X.env := by rfl)
    (h3 : starEach [c1, c2] X.env = (false, eval c1 X.env) :: starEach [c2] X.env := by rfl) (h4 : starEach [c2] X.env = (false, eval c2 X.env) :: starEach [] X.env := by rfl)
    (hpl : (backTo pos (starEach [.Tuple [c1, c2] x1 tp] X.env)).any (·.1) = false := by rfl) :
    Sd X W (.Call (.Name "isinstance" p) [e, .Tuple [c1, c2] x1 tp] [] pos) (mIsi f me) := by
  refine pe_imp (pe_callB call_isiT hg hm (by rfl) (pa_cons h (pa_cons (pe_tup (pa_cons hc (pa_cons hd pa_nil h4) h3)) pa_nil he2) he) (by decide) (by decide) he hpl) fun σ H Q ⟨ρ, st, Z, ι, en, r0, p⟩ => ?_
  refine rdG.mono (kont en r0 p) fun v H1 ⟨st1, Z1, ι1, x, g1, e1, r1, rx, p1⟩ => ?_
  show [cv, cw].length ≤ sizeLine ∧ ∀ q, H1 q = none → rIsiT X.K [v, .ref q] (upd H1 q (.tup [cv, cw])) Q
  refine ⟨by rw [sizeLine_eq]; show 2 ≤ 16777216; omega, fun q hq => ?_⟩
  cases hk : kdD st1 x with
  | none => rw [hk] at p1; exact p1.elim
  | some k =>
    rw [hk] at p1
    dsimp only [Option.bind_some] at p1
    cases hb : f k with
    | none => rw [hb] at p1; exact p1.elim
    | some b =>
      rw [hb] at p1
      obtain ⟨h1, h2⟩ := hf k b hb fun t e => kd_names (e ▸ hk)
      obtain ⟨r2, g2⟩ := r1.junk (o := .tup [cv, cw]) hq
      exact ⟨v, q, [cv, cw], _, [u, u2], b, rfl, upd_same, .cons hcv (.cons hcw .nil), ty_of r2 rx hk h2, h1, p1 _ _ _ _ g2 r2 (.bl b)⟩
end
/-! ### dicts with keys that are texts or ints -/
def key? : D → Option Key
  | .int i => some (.inl i)
  | .str s => some (.inr s)
  | _ => none
def getK (l : List (Key × D)) (k : Key) : Option D := (l.find? fun kv => decide (kv.1 = k)).map (·.2)
def putD (l : List (Key × D)) (k : Key) (v : D) : List (Key × D) := if (l.any fun kv => decide (kv.1 = k)) = true then l.map (fun kv => if kv.1 = k then (kv.1, v) else kv) else l ++ [(k, v)]
def dct? (s : Sto) : D → Option (List (Key × D))
  | .ref n => match s[n]? with
    | some (.dct l) => some l
    | _ => none
  | .dct ks vs => some (ks.zip vs)
  | _ => none
section
variable {K : PySem.W.Frag} {Z H : Hp} {ι : List Addr} {st : Sto}
theorem key_rp {v : V} {d : D} {k : Key} (h : Rp K Z ι v d) (e : key? d = some k) : v = kV k := by cases h <;> first | (cases e; rfl) | cases e
theorem RpK.find {ks : List (Key × V)} {kvs : List (Key × D)} (h : RpK K Z ι ks kvs) (k : Key) : (getK kvs k = none ∧ valV ks k = none) ∨ ∃ d v, getK kvs k = some d ∧ valV ks k = some v ∧ Rp K Z ι v d := by
  unfold RpK at h
  induction h with
  | nil => exact .inl ⟨rfl, rfl⟩
  | @cons p q ps qs hpq t ih =>
    obtain ⟨h1, h2⟩ := hpq
    by_cases e : p.1 = k
    · refine .inr ⟨q.2, p.2, ?_, valV_pos e, h2⟩
      unfold getK
      rw [List.find?_cons, ← h1]
      simp [e]
    · have e2 : ¬ q.1 = k := fun z => e (h1.trans z)
      rw [valV_neg e]
      have e3 : getK (q :: qs) k = getK qs k := by unfold getK; rw [List.find?_cons]; simp [e2]
      rw [e3]
      exact ih
theorem RpK.len {ks : List (Key × V)} {kvs : List (Key × D)} (h : RpK K Z ι ks kvs) : ks.length = kvs.length := Paired.length h
theorem RpK.any {ks : List (Key × V)} {kvs : List (Key × D)} (h : RpK K Z ι ks kvs) (k : Key) : (ks.any fun kv => decide (kv.1 = k)) = kvs.any fun kv => decide (kv.1 = k) := by
  unfold RpK at h
  induction h with
  | nil => rfl
  | @cons p q ps qs hpq t ih => rw [List.any_cons, List.any_cons, ih, hpq.1]
theorem paired_append {α β : Type} {R : α → β → Prop} : ∀ {as cs : List α} {bs ds : List β}, Paired R as bs → Paired R cs ds → Paired R (as ++ cs) (bs ++ ds)
  | _, _, _, _, .nil, q => q
  | _, _, _, _, .cons h t, q => .cons h (paired_append t q)
theorem RpK.put {ks : List (Key × V)} {kvs : List (Key × D)} {v : V} {d : D} (h : RpK K Z ι ks kvs) (k : Key) (r : Rp K Z ι v d) : RpK K Z ι (putK ks k v) (putD kvs k d) := by
  unfold putK putD
  rw [h.any]
  split
  · rename_i hany
    clear hany
    unfold RpK at h ⊢
    induction h with
    | nil => exact .nil
    | @cons p q ps qs hpq t ih =>
      rw [List.map_cons, List.map_cons]
      refine .cons ?_ ih
      by_cases e : p.1 = k
      · rw [if_pos e, if_pos (hpq.1 ▸ e)]; exact ⟨hpq.1, r⟩
      · rw [if_neg e, if_neg (hpq.1 ▸ e)]; exact hpq
  · exact paired_append h (.cons ⟨rfl, r⟩ .nil)
theorem zip_rpk : ∀ {ks : List Key} {xs : List V} {ds : List D}, ks.length = xs.length → RpL K Z ι xs ds → RpK K Z ι (ks.zip xs) (ks.zip ds)
  | [], _, _, hl, .nil => .nil
  | k :: ks, _, _, hl, .cons h r => .cons ⟨rfl, h⟩ (zip_rpk (by simpa using hl) r)
  | [], _, _, hl, .cons _ _ => nomatch hl
  | _ :: _, _, _, hl, .nil => nomatch hl
theorem dct_at {v : V} {x : D} {l : List (Key × D)} (r : Rel K st H Z ι) (h : Rp K Z ι v x) (hd : dct? st x = some l) : ∃ a ks, v = .ref a ∧ H a = some (.dK ks) ∧ RpK K Z ι ks l := by
  cases h with
  | dct hl hz q => cases hd; exact ⟨_, _, rfl, r.zin _ _ hz, zip_rpk hl q⟩
  | @ref n a hn =>
    unfold dct? at hd
    dsimp only at hd
    obtain ⟨o, hs, hob⟩ := r.at_ hn
    rw [hs] at hd
    cases o with
    | dct l' => cases hd; obtain ⟨_, ks, e, q⟩ := hob; exact ⟨a, ks, rfl, e, q⟩
    | _ => cases hd
  | _ => cases hd
end
def mDGet (a b : ME) : ME := fun ρ s => bnd (a ρ s) fun x s => bnd (b ρ s) fun y s => match dct? s x, key? y with
  | some l, some k => ofO (getK l k) s
  | _, _ => none
def mDGet2 (a b c : ME) : ME := fun ρ s => bnd (a ρ s) fun x s => if (dct? s x).isSome then bnd (b ρ s) fun y s => bnd (c ρ s) fun z s => (match dct? s x, key? y with
  | some l, some k => some (.ok ((getK l k).getD z) s)
  | _, _ => none) else none
def mDNew : ME := fun _ s => some (.ok (.ref s.length) (s ++ [.dct []]))
def mDPut (v o i : ME) : MS := fun ρ s => bndS (v ρ s) ρ fun d s => bndS (o ρ s) ρ fun x s => bndS (i ρ s) ρ fun y s => match x, key? y with
  | .ref n, some k => (match s[n]? with
    | some (.dct l) => if l.length < 16777216 then some (.nx ρ (s.set n (.dct (putD l k d)))) else none
    | _ => none)
  | _, _ => none
def mVals : List (Str × ME) → MA
  | [] => mNil
  | p :: r => mCons p.2 (mVals r)
def mergeD : List (Key × D) → List (Key × D) → List (Key × D) := fun acc more => more.foldl (fun acc kv => putD acc kv.1 kv.2) acc
def mDLit (ms : List (Str × ME)) : ME := fun ρ s => bnd (mVals ms ρ (s ++ [.dct []])) fun ds s' => match s'[s.length]? with
  | some (.dct []) => some (.ok (.ref s.length) (s'.set s.length (.dct (mergeD [] ((ms.map fun p => Sum.inr p.1).zip ds)))))
  | _ => none
section
variable {X : Cx} {W : WX} {o i e f value : Expr} {pos pos' apos : Pos} {mo mi me mf : ME}
theorem dget_of {H : Hp} {a : Addr} {ks : List (Key × V)} {k : Key} {y : V} (e : H a = some (.dK ks)) (hy : y = kV k) : DGet H a y (valV ks k) := by subst hy; exact DGet.k e
theorem sd_dget (hu : X.A.units + 1 < cLine) (ho : Sd X W o mo) (hi : Sd X W i mi) (hs : NoSl i := by exact fun _ _ => rfl) : Sd X W (.Subscript o i pos) (mDGet mo mi) := by
  refine pe_imp (pe_dget hu ho hi hs) fun σ H Q ⟨ρ, st, Z, ι, en, r0, p⟩ => ?_
  refine rdG.mono (kont en r0 p) fun v H1 ⟨st1, Z1, ι1, x, g1, e1, r1, rx, p1⟩ => ?_
  refine rdG.mono (kont e1 r1 p1) fun u H2 ⟨st2, Z2, ι2, y, g2, e2, r2, ry, p2⟩ => ?_
  cases hd : dct? st2 x with
  | none => rw [hd] at p2; exact p2.elim
  | some l => cases hk : key? y with
    | none => rw [hd, hk] at p2; exact p2.elim
    | some k =>
      rw [hd, hk] at p2
      dsimp only at p2
      obtain ⟨a, ks, rfl, hH, hr⟩ := dct_at r2 (rx.mono g2.toExt) hd
      rcases hr.find k with ⟨h1, _⟩ | ⟨d, v, h1, h2, hv⟩
      · rw [h1] at p2; exact p2.elim
      · rw [h1] at p2
        exact ⟨a, v, rfl, h2 ▸ dget_of hH (key_rp ry hk), p2 _ _ _ _ (Grow.refl _ _ _) r2 hv⟩
theorem sd_dget2 (hu : X.A.units + 1 < cLine) (ho : Sd X W o mo) (he : Sd X W e me) (hf : Sd X W f mf) (m : M2 X o "get" apos e f pos := by exact ⟨rfl, rfl, rfl, rfl⟩) : Sd X W (.Call (.Attribute o "get" apos) [e, f] [] pos) (mDGet2 mo me mf) := by
  refine pe_imp (pe_dget2 hu ho he hf m) fun σ H Q ⟨ρ, st, Z, ι, en, r0, p⟩ => ?_
  refine rdG.mono (kont en r0 p) fun v H1 ⟨st1, Z1, ι1, x, g1, e1, r1, rx, p1⟩ => ?_
  by_cases hx : (dct? st1 x).isSome = true
  · rw [if_pos hx] at p1
    obtain ⟨l1, hl1⟩ := Option.isSome_iff_exists.mp hx
    obtain ⟨a, ks1, rfl, hH1, _⟩ := dct_at r1 rx hl1
    refine ⟨a, rfl, .inl ⟨ks1, .inl hH1⟩, rdG.mono (kont e1 r1 p1) fun u H2 ⟨st2, Z2, ι2, y, g2, e2, r2, ry, p2⟩ => rdG.mono (kont e2 r2 p2) fun z H3 ⟨st3, Z3, ι3, zd, g3, e3, r3, rz, p3⟩ => ?_⟩
    cases hd : dct? st3 x with
    | none => rw [hd] at p3; exact p3.elim
    | some l => cases hk : key? y with
      | none => rw [hd, hk] at p3; exact p3.elim
      | some k =>
        rw [hd, hk] at p3
        dsimp only at p3
        obtain ⟨a', ks, e', hH, hr⟩ := dct_at r3 ((rx.mono g2.toExt).mono g3.toExt) hd
        cases e'
        have hy := key_rp ry hk
        rcases hr.find k with ⟨h1, h2⟩ | ⟨d, v, h1, h2, hv⟩
        · rw [h1] at p3
          exact ⟨none, h2 ▸ dget_of hH hy, p3 _ _ _ _ (Grow.refl _ _ _) r3 rz⟩
        · rw [h1] at p3
          exact ⟨some v, h2 ▸ dget_of hH hy, p3 _ _ _ _ (Grow.refl _ _ _) r3 hv⟩
  · rw [if_neg hx] at p1; exact p1.elim
theorem box_dct {K : PySem.W.Frag} {st : Sto} {H Z : Hp} {ι : List Addr} (r : Rel K st H Z ι) {p : Addr} (hp : H p = none) : Rel K (st ++ [.dct []]) (upd H p (.dK [])) Z (ι ++ [p]) ∧ Grow Z ι H Z (ι ++ [p]) (upd H p (.dK [])) ∧ (ι ++ [p])[st.length]? = some p := by
  obtain ⟨r2, g2⟩ := r.box (o := .dK []) (ob := .dct []) hp fun H' ι' e z g => ⟨z, [], e, .nil⟩
  exact ⟨r2, g2, by rw [← r.len]; simp⟩
theorem sd_dnew : Sd X W (.Dict [] [] pos) mDNew := by
  refine pe_imp pe_dnewK fun σ H Q ⟨ρ, st, Z, ι, en, r0, p⟩ => ?_
  intro q hq
  obtain ⟨r2, g2, h2⟩ := box_dct r0 hq
  exact p _ _ _ _ g2 r2 (.ref h2)
theorem ss_dput (hu : X.A.units + 1 < cLine) (ho : Sd X W o mo) (hi : Sd X W i mi) (hv : Sd X W value me) (hs : swapsWith value (some (.Subscript o i pos')) pos.line X.env = pure false := by rfl) :
    SdS X W (.Assign [.Subscript o i pos'] value pos) (mDPut me mo mi) := by
  refine ps_imp (ps_dput hu ho hi hv hs) fun E σ H ⟨ρ, st, Z, ι, en, r, p⟩ => ?_
  refine rdG.mono (skont en r p) fun v H1 ⟨st1, Z1, ι1, d, g1, e1, r1, rd1, p1⟩ => ?_
  refine rdG.mono (skont e1 r1 p1) fun w H2 ⟨st2, Z2, ι2, x, g2, e2, r2, rx, p2⟩ => ?_
  refine rdG.mono (skont e2 r2 p2) fun u H3 ⟨st3, Z3, ι3, y, g3, e3, r3, ry, p3⟩ => ?_
  cases rx with
  | @ref n a hn =>
    cases hk : key? y with
    | none => rw [hk] at p3; exact p3.elim
    | some k =>
      rw [hk] at p3
      dsimp only at p3
      have hn3 := g3.toExt.get hn
      obtain ⟨ob, hs, hob⟩ := r3.at_ hn3
      rw [hs] at p3
      cases ob with
      | dct l =>
        dsimp only at p3
        split at p3
        · rename_i hl
          obtain ⟨hz, ks, hH, hr⟩ := hob
          have hd := (rd1.mono g2.toExt).mono g3.toExt
          obtain ⟨r4, g4⟩ := r3.change (o := .dK (putK ks k v)) (ob := .dct (putD l k d)) hn3 hz fun H' e' => ⟨hz, _, e', hr.put k hd⟩
          refine ⟨a, _, rfl, (key_rp ry hk) ▸ DPut.k hH (by rw [hr.len, sizeLine_eq]; exact hl), PostS.nx_ (p3.grow g4) (e3.mono g4.toExt) r4⟩
        · exact p3.elim
      | _ => exact p3.elim
  | _ => exact p3.elim
/-- the pairs of a display -/
abbrev SdP (X : Cx) (W : WX) (pos : Pos) (keys : List (Option Expr)) (values : List Expr) (ms : List (Str × ME)) : Prop := PPs X pos keys values (ms.map fun p => (tC (.str p.1), rd X.K W p.2))
theorem sp_nil : SdP X W pos [] [] [] := pps_nil
theorem sp_cons {ks : List (Option Expr)} {vs : List Expr} {ms : List (Str × ME)} {v : Expr} {z : Str} {j} {p2 : Pos} {mv : ME} (hv : Sd X W v mv) (hr : SdP X W pos ks vs ms) : SdP X W pos (some (.Constant (.str z) j p2) :: ks) (v :: vs) ((z, mv) :: ms) := pps_cons pe_str hv hr
theorem pairs_mono {K : PySem.W.Frag} {σ : L2.St} : ∀ (ms : List (Str × ME)) {H : Hp} {P P' : List (V × V) → Hp → Prop}, (∀ ps H, P ps H → P' ps H) → tPairs (ms.map fun p => (tC (.str p.1), rd K W p.2)) σ H P → tPairs (ms.map fun p => (tC (.str p.1), rd K W p.2)) σ H P'
  | [], H, P, P', h, q => h _ _ q
  | n :: ms, H, P, P', h, q => by
    show rd K W n.2 σ H _
    exact rdG.mono (show rd K W n.2 σ H _ from q) fun y H2 q2 => pairs_mono ms (fun ps H q => h _ _ q) q2
theorem pairs_read {K : PySem.W.Frag} {σ : L2.St} {ρ : Env} {α β : Type} {rep : Hp → List Addr → β → α → Prop} {Q : β → Hp → Prop} : ∀ (ms : List (Str × ME)) (H Z : Hp) (ι : List Addr) (st : Sto) (f : List D → Sto → RO α), EnvR K Z ι ρ σ → Rel K st H Z ι →
    Post K W σ Z ι H rep Q (bnd (mVals ms ρ st) f) →
    tPairs (ms.map fun p => (tC (.str p.1), rd K W p.2)) σ H (fun ps H3 => ∃ st3 Z3 ι3 vs ds, Grow Z ι H Z3 ι3 H3 ∧ EnvR K Z3 ι3 ρ σ ∧ Rel K st3 H3 Z3 ι3 ∧ RpL K Z3 ι3 vs ds ∧ vs.length = ms.length ∧ ps = ((ms.map fun p => (Sum.inr p.1 : Key)).zip vs).map (fun kv => (kV kv.1, kv.2)) ∧ Post K W σ Z3 ι3 H3 rep Q (f ds st3))
  | [], H, Z, ι, st, f, e, r, p => ⟨st, Z, ι, [], [], Grow.refl _ _ _, e, r, .nil, rfl, rfl, p⟩
  | m :: ms, H, Z, ι, st, f, e, r, p => by
    have p' : Post K W σ Z ι H rep Q (bnd (m.2 ρ st) fun d s => bnd (mVals ms ρ s) fun ds s => f (d :: ds) s) := by
      have q : bnd (mVals (m :: ms) ρ st) f = bnd (m.2 ρ st) fun d s => bnd (mVals ms ρ s) fun ds s => f (d :: ds) s := by
        show bnd (mCons m.2 (mVals ms) ρ st) f = _
        unfold mCons
        cases hx : m.2 ρ st with
        | none => rfl
        | some z => cases z with
          | ex x s => rfl
          | ok d s =>
            dsimp only [bnd_ok]
            cases hy : mVals ms ρ s with
            | none => rfl
            | some z => cases z <;> rfl
      rw [q] at p
      exact p
    show rd K W m.2 σ H fun y H2 => tPairs _ σ H2 _
    refine rdG.mono (kont e r p') fun v H1 ⟨st1, Z1, ι1, d, g1, e1, r1, rx, p1⟩ => ?_
    refine pairs_mono ms (fun ps H3 ⟨st3, Z3, ι3, vs, ds, g3, e3, r3, hv, hl, hps, p3⟩ => ?_) (pairs_read ms H1 Z1 ι1 st1 _ e1 r1 p1)
    exact ⟨st3, Z3, ι3, v :: vs, d :: ds, g1.trans g3, e3, r3, .cons (rx.mono g3.toExt) hv, by simp [hl], by rw [hps]; rfl, p3⟩
theorem RpK.merge {K : PySem.W.Frag} {Z : Hp} {ι : List Addr} : ∀ {more : List (Key × V)} {mored : List (Key × D)} {ks : List (Key × V)} {kvs : List (Key × D)}, RpK K Z ι more mored → RpK K Z ι ks kvs → RpK K Z ι (mergeK ks more) (mergeD kvs mored) := by
  intro more mored ks kvs h
  unfold RpK at h
  induction h generalizing ks kvs with
  | nil => intro q; exact q
  | @cons p q ps qs hpq t ih =>
    intro r
    have := RpK.put r p.1 hpq.2
    refine ih (ks := putK ks p.1 p.2) (kvs := putD kvs q.1 q.2) ?_
    rw [← hpq.1]
    exact this
theorem sd_dlit {keys : List (Option Expr)} {values : List Expr} {ms : List (Str × ME)} (h : SdP X W pos keys values ms) (h15 : ms.length ≤ 15) (hall : keys.all (·.isSome) = true := by rfl) (hl : keys.length = values.length := by rfl) (h0 : keys ≠ [] := by exact List.cons_ne_nil _ _) (hk : keys.length ≤ 15 := by decide) :
    Sd X W (.Dict keys values pos) (mDLit ms) := by
  refine pe_imp (pe_disp h hall hl h0 hk) fun σ H Q ⟨ρ, st, Z, ι, en, r0, p⟩ => ?_
  intro q hq
  obtain ⟨r1, g1, hn⟩ := box_dct r0 hq
  have e1 := en.mono g1.toExt
  refine pairs_mono ms (fun ps H3 ⟨st3, Z3, ι3, vs, ds, g3, e3, r3, hv, hvl, hps, p3⟩ => ?_) (pairs_read ms _ Z (ι ++ [q]) (st ++ [.dct []]) _ e1 r1 (p.grow g1))
  have hn3 := g3.toExt.get hn
  obtain ⟨ob, hs, hob⟩ := r3.at_ hn3
  rw [hs] at p3
  cases ob with
  | dct l => cases l with
    | cons _ _ => exact p3.elim
    | nil =>
      dsimp only at p3
      obtain ⟨hz, ks, hH, hr⟩ := hob
      have hks : ks = [] := by cases hr; rfl
      subst hks
      have hzr : RpK X.K Z3 ι3 ((ms.map fun p => (Sum.inr p.1 : Key)).zip vs) ((ms.map fun p => (Sum.inr p.1 : Key)).zip ds) := zip_rpk (by rw [List.length_map, hvl]) hv
      obtain ⟨r4, g4⟩ := r3.change (o := .dK (mergeK [] ((ms.map fun p => (Sum.inr p.1 : Key)).zip vs))) (ob := .dct (mergeD [] ((ms.map fun p => (Sum.inr p.1 : Key)).zip ds))) hn3 hz fun H' e' => ⟨hz, _, e', hzr.merge .nil⟩
      refine ⟨hH, _, hps, by rw [List.length_zip, List.length_map, hvl]; omega, p3 _ _ _ _ g4 r4 (.ref hn3)⟩
  | _ => exact p3.elim
end
end MP

set_option Elab.async false
set_option linter.all false
set_option maxRecDepth 100000
set_option maxHeartbeats 4000000
/-! MPB: written tables, repr, instances -/
namespace MP
open PySem PySem.Spec PyProof.Rows L2

/-! ### a written table from texts to texts -/
def TabK (K : PySem.W.Frag) (w : World) (d : Addr) (T : List (Str × Str)) : Prop := (∃ es n, KDict K w d es n) ∧ ∀ z, match T.lookup z with
  | none => PySem.W.nsIn K d z = some none
  | some v => ∃ t, PySem.W.nsIn K d z = some (some (.str v t))
def mTabIn (T : List (Str × Str)) (a : ME) : ME := fun ρ s => bnd (a ρ s) fun x s => match x with
  | .str z => some (.ok (.bl (T.lookup z).isSome) s)
  | _ => none
def mTabNotIn (T : List (Str × Str)) (a : ME) : ME := fun ρ s => bnd (a ρ s) fun x s => match x with
  | .str z => some (.ok (.bl (!(T.lookup z).isSome)) s)
  | _ => none
def mTab (T : List (Str × Str)) (a : ME) : ME := fun ρ s => bnd (a ρ s) fun x s => match x with
  | .str z => (match T.lookup z with
    | some v => some (.ok (.str v) s)
    | none => none)
  | _ => none
section
variable {X : Cx} {W : WX} {e o : Expr} {p pos : Pos} {me : ME} {d : Addr} {T : List (Str × Str)}
theorem tab_ns {K : PySem.W.Frag} {w : World} (h : TabK K w d T) (z : Str) : ∃ r, PySem.W.nsIn K d z = some r ∧ r.isSome = (T.lookup z).isSome := by
  have q := h.2 z
  cases e : T.lookup z with
  | none => rw [e] at q; exact ⟨none, q, rfl⟩
  | some v => rw [e] at q; obtain ⟨t, q⟩ := q; exact ⟨_, q, rfl⟩
theorem sd_tabIn (h : TabK X.K X.w d T) (he : Sd X W e me) (ho : PE X o (tC (.ref d))) (hm : behindInMarks .In o = false := by first | exact nomark _ | rfl) : Sd X W (.Compare e [.In] [o] pos) (mTabIn T me) := by
  obtain ⟨es, n, D⟩ := h.1
  refine pe_imp (pe_cmpR (op_in_kd D) he ho hm) fun σ H Q ⟨ρ, st, Z, ι, en, r0, p⟩ => ?_
  refine rdG.mono (kont en r0 p) fun v H1 ⟨st1, Z1, ι1, x, g1, e1, r1, rx, p1⟩ => ?_
  cases rx with
  | str z =>
    obtain ⟨r, h1, h2⟩ := tab_ns h z
    exact ⟨z, r, rfl, rfl, h1, by rw [h2]; exact p1 _ _ _ _ (Grow.refl _ _ _) r1 (.bl _)⟩
  | _ => exact p1.elim
theorem sd_tabNotIn (h : TabK X.K X.w d T) (he : Sd X W e me) (ho : PE X o (tC (.ref d))) (hm : behindInMarks .NotIn o = false := by first | exact nomark _ | rfl) : Sd X W (.Compare e [.NotIn] [o] pos) (mTabNotIn T me) := by
  obtain ⟨es, n, D⟩ := h.1
  refine pe_imp (pe_cmpR (op_notIn_kd D) he ho hm) fun σ H Q ⟨ρ, st, Z, ι, en, r0, p⟩ => ?_
  refine rdG.mono (kont en r0 p) fun v H1 ⟨st1, Z1, ι1, x, g1, e1, r1, rx, p1⟩ => ?_
  cases rx with
  | str z =>
    obtain ⟨r, h1, h2⟩ := tab_ns h z
    exact ⟨z, r, rfl, rfl, h1, by rw [h2]; exact p1 _ _ _ _ (Grow.refl _ _ _) r1 (.bl _)⟩
  | _ => exact p1.elim
theorem ix_tab {es : Array DictEntry} {n : Nat} (D : KDict X.K X.w d es n) : IxR X (fun x y H Q => ∃ (z : Str) (u0 : Value) (v0 : V), x = .ref d ∧ y = .str z ∧ PySem.W.nsIn X.K d z = some (some u0) ∧ RelV v0 u0 ∧ Q v0 H) := by
  intro value slice pins s σ H x y v u Q I rx ry h hs
  have h' := h
  obtain ⟨z, u0, v0, rfl, rfl, _⟩ := h'
  cases rx
  have hT := kd_type D I
  unfold subscriptTail
  refine wpAny_bind ?_
  rw [getitemInPython_of_ne hT.not_modules]
  refine wpAny_bind (wpAny_specialOf hT PySem.F.slot_dict_getitem.lookup ?_)
  have fin : wpAny (model X.prog X.w) X.A (subscripted slice false (.ref d) u) (fun r s₃ => wpAny (model X.prog X.w) X.A (letTemporaryGo value (.ref d) r >>= fun _ => pure r) (EP X pins σ Q) X.xe s₃) X.xe s := by
    rw [hs]
    exact wpAny_operating (wpAny_mono (op_item_kd D pins s σ H (.ref d) (.str z) (.ref d) u Q I rfl ry h) (fun r s₃ h₃ => wpAny_bind (wpAny_letTemporaryGo (wpAny_pure h₃))) fun _ _ x => x)
  first
    | exact wpAny_pure (wpAny_bind fin)
    | exact wpAny_bind (wpAny_pure (wpAny_bind fin))
    | exact wpAny_bind fin
theorem sd_tab (h : TabK X.K X.w d T) (he : Sd X W e me) (ho : PE X o (tC (.ref d))) (hp : PlainIx e := by exact fun _ _ => rfl) : Sd X W (.Subscript o e pos) (mTab T me) := by
  obtain ⟨es, n, D⟩ := h.1
  refine pe_imp (pe_ix (ix_tab D) ho he hp) fun σ H Q ⟨ρ, st, Z, ι, en, r0, p⟩ => ?_
  refine (show rd X.K W me σ H _ from rdG.mono (kont en r0 p) fun v H1 ⟨st1, Z1, ι1, x, g1, e1, r1, rx, p1⟩ => ?_)
  cases rx with
  | str z =>
    dsimp only at p1
    have q := h.2 z
    cases e : T.lookup z with
    | none => rw [e] at p1; exact p1.elim
    | some v0 =>
      rw [e] at q p1
      obtain ⟨t, q⟩ := q
      exact ⟨z, _, .str v0, rfl, rfl, q, ⟨t, rfl⟩, p1 _ _ _ _ (Grow.refl _ _ _) r1 (.str _)⟩
  | _ => exact p1.elim
end
/-! ### repr -/
def pyF : Nat → Sto → D → Option PyData
  | 0, _, _ => none
  | n + 1, s, d => match d with
    | .non => some .none
    | .bl b => some (.bool b)
    | .int i => some (.int i)
    | .str z => some (.str z)
    | .lst l => (l.mapM (pyF n s)).map .list
    | .tup l => (l.mapM (pyF n s)).map .tuple
    | .ref m => (match s[m]? with
      | some (.lst l) => (l.mapM (pyF n s)).map .list
      | _ => none)
    | _ => none
section
variable {K : PySem.W.Frag} {st : Sto} {H Z : Hp} {ι : List Addr}
theorem mapM_cons' {α β : Type} {f : α → Option β} {a : α} {l : List α} {bs : List β} (h : (a :: l).mapM f = some bs) : ∃ b bs', f a = some b ∧ l.mapM f = some bs' ∧ bs = b :: bs' := by
  rw [List.mapM_cons] at h
  cases h1 : f a with
  | none => rw [h1] at h; cases h
  | some b => cases h2 : l.mapM f with
    | none => rw [h1, h2] at h; cases h
    | some bs' => rw [h1, h2] at h; cases h; exact ⟨b, bs', rfl, rfl, rfl⟩
theorem dpF_all {n : Nat} (ih : ∀ {v : V} {d : D} {p : PyData}, Rp K Z ι v d → pyF n st d = some p → Dp K H v p ∧ p.depth ≤ n) : ∀ {vs : List V} {ds : List D} {ps : List PyData}, RpL K Z ι vs ds → ds.mapM (pyF n st) = some ps → DpAll K H vs ps ∧ PyData.depthAll ps ≤ n
  | _, _, _, .nil, h => by cases h; exact ⟨.nil, Nat.zero_le _⟩
  | _, _, _, .cons h q, e => by
    obtain ⟨b, bs, h1, h2, rfl⟩ := mapM_cons' e
    obtain ⟨a1, a2⟩ := ih h h1
    obtain ⟨b1, b2⟩ := dpF_all ih q h2
    exact ⟨.cons a1 b1, by simp only [PyData.depthAll]; omega⟩
theorem dpF_of (r : Rel K st H Z ι) : ∀ (n : Nat) {v : V} {d : D} {p : PyData}, Rp K Z ι v d → pyF n st d = some p → Dp K H v p ∧ p.depth ≤ n
  | 0, _, _, _, _, e => by cases e
  | n + 1, _, _, _, h, e => by
    have all := fun {vs : List V} {ds : List D} {ps : List PyData} => dpF_all (K := K) (st := st) (H := H) (Z := Z) (ι := ι) (n := n) (fun h e => dpF_of r n h e) (vs := vs) (ds := ds) (ps := ps)
    cases h with
    | non => cases e; exact ⟨.non, by simp [PyData.depth]⟩
    | bl b => cases e; exact ⟨.bl b, by simp [PyData.depth]⟩
    | int i => cases e; exact ⟨.int i, by simp [PyData.depth]⟩
    | str z => cases e; exact ⟨.str z, by simp [PyData.depth]⟩
    | @lst a xs ds hz q =>
      unfold pyF at e
      dsimp only at e
      cases h2 : ds.mapM (pyF n st) with
      | none => rw [h2] at e; cases e
      | some ps => rw [h2] at e; cases e; obtain ⟨a1, a2⟩ := all q h2; exact ⟨.lst (SqL.of (r.zin _ _ hz)) a1, by simp only [PyData.depth]; omega⟩
    | @tup a xs ds hz q =>
      unfold pyF at e
      dsimp only at e
      cases h2 : ds.mapM (pyF n st) with
      | none => rw [h2] at e; cases e
      | some ps => rw [h2] at e; cases e; obtain ⟨a1, a2⟩ := all q h2; exact ⟨.tup (same_sqt r.zin hz) a1, by simp only [PyData.depth]; omega⟩
    | @ref m a hm =>
      unfold pyF at e
      dsimp only at e
      obtain ⟨ob, hs, hob⟩ := r.at_ hm
      rw [hs] at e
      cases ob with
      | lst l =>
        dsimp only at e
        obtain ⟨_, xs, hH, q⟩ := hob
        cases h2 : l.mapM (pyF n st) with
        | none => rw [h2] at e; cases e
        | some ps => rw [h2] at e; cases e; obtain ⟨a1, a2⟩ := all q h2; exact ⟨.lst (SqL.of hH) a1, by simp only [PyData.depth]; omega⟩
      | _ => cases e
    | _ => cases e
end
def gRepr (s : Sto) : List D → Option D
  | [d] => match pyF 60 s d with
    | some p => (match p with
      | .list _ => if p.showable && decide (p.shown.length ≤ 16777216) then some (.str p.shown) else none
      | .tuple _ => if p.showable && decide (p.shown.length ≤ 16777216) then some (.str p.shown) else none
      | _ => none)
    | none => none
  | _ => none
def rRepr (K : PySem.W.Frag) : List V → Hp → VK → Prop := fun xs H Q => ∃ a p, xs = [V.ref a] ∧ Dp K H (.ref a) p ∧ p.depth ≤ 60 ∧ p.showable = true ∧ p.hasDict = false ∧ p.shown.length ≤ sizeLine ∧ Q (.str p.shown) H
theorem cr_repr {X : Cx} (hG : X.A.guards = some []) (hu : X.A.units + 61 < cLine) : CallR X (.builtin "repr") (rRepr X.K) := by
  intro pins s σ H xs us Q I r h
  obtain ⟨a, p, rfl, hd, hdp, hs, hdi, hl, q⟩ := h
  rw [Vals.ref1 r]
  obtain ⟨as, hr⟩ := Dp.reads I p (.ref a) (.ref a) hd rfl
  refine repr_of_reads' hr hs (fun e => by rw [hdi] at e; cases e) hG (by omega) (fun b o e => e) (fun h' u tk hk => ?_) hl
  exact ⟨.str p.shown, H, I.kept hk, ⟨_, rfl⟩, q⟩
mutual
theorem nodict : ∀ {K : PySem.W.Frag} {H : Hp} {v : V} {p : PyData}, Dp K H v p → p.hasDict = false
  | _, _, _, _, .non => rfl
  | _, _, _, _, .bl _ => rfl
  | _, _, _, _, .int _ => rfl
  | _, _, _, _, .str _ => rfl
  | _, _, _, _, .lst _ q => by simp only [PyData.hasDict]; exact nodictAll q
  | _, _, _, _, .tup _ q => by simp only [PyData.hasDict]; exact nodictAll q
theorem nodictAll : ∀ {K : PySem.W.Frag} {H : Hp} {vs : List V} {ps : List PyData}, DpAll K H vs ps → PyData.hasDictAll ps = false
  | _, _, _, _, .nil => rfl
  | _, _, _, _, .cons h q => by simp only [PyData.hasDictAll]; rw [nodict h, nodictAll q]; rfl
end
theorem cs_repr {K : PySem.W.Frag} : CallS K (pu gRepr) (rRepr K) := fun st st' ds d vs H Z ι Q hf r hv k => by
  obtain ⟨hf, rfl⟩ := pu_inv hf
  cases hv with
  | nil => cases hf
  | @cons v _ x _ h q => cases q with
    | cons _ _ => cases hf
    | nil =>
      unfold gRepr at hf
      cases hp : pyF 60 st' x with
      | none => simp [hp] at hf
      | some p =>
        obtain ⟨h1, h2⟩ := dpF_of r 60 h hp
        have fin : (if (p.showable && decide (p.shown.length ≤ 16777216)) = true then some (D.str p.shown) else none) = some d → (∃ a, v = .ref a) → rRepr K [v] H Q := fun hf ⟨a, ha⟩ => by
          subst ha
          split at hf
          · rename_i hc
            rw [Bool.and_eq_true, decide_eq_true_eq] at hc
            cases hf
            exact ⟨a, p, rfl, h1, h2, hc.1, nodict h1, by rw [sizeLine_eq]; exact hc.2, k _ _ _ _ (Grow.refl _ _ _) r (.str _)⟩
          · cases hf
        cases h1 with
        | lst _ _ => simp only [hp] at hf; exact fin hf ⟨_, rfl⟩
        | tup _ _ => simp only [hp] at hf; exact fin hf ⟨_, rfl⟩
        | _ => simp [hp] at hf
end MP

set_option Elab.async false
set_option linter.all false
set_option maxRecDepth 100000
set_option maxHeartbeats 4000000
/-! MPC: instances: attributes, methods, making, own ==, !=, len -/
namespace MP
open PySem L2

def ins? (s : Sto) (C : Str) : D → Option (Nat × List (Str × D))
  | .ref n => match s[n]? with
    | some (.ins C' fs) => if C' = C then some (n, fs) else none
    | _ => none
  | _ => none
theorem ins_at {K : PySem.W.Frag} {st : Sto} {H Z : Hp} {ι : List Addr} {v : V} {x : D} {C : Str} {n : Nat} {fs : List (Str × D)} (r : Rel K st H Z ι) (h : Rp K Z ι v x) (hi : ins? st C x = some (n, fs)) :
    ∃ a dx gs, v = .ref a ∧ x = .ref n ∧ st[n]? = some (.ins C fs) ∧ ι[n]? = some a ∧ Z a = none ∧ H a = some (.ins (He.ga K C) dx gs) ∧ RpF K Z ι gs fs := by
  cases h with
  | @ref m a hm =>
    unfold ins? at hi
    dsimp only at hi
    obtain ⟨ob, hs, hob⟩ := r.at_ hm
    rw [hs] at hi
    cases ob with
    | ins C' fs' =>
      dsimp only at hi
      split at hi
      · rename_i e
        subst e
        cases hi
        obtain ⟨z, dx, gs, e, q⟩ := hob
        exact ⟨a, dx, gs, rfl, rfl, hs, hm, z, e, q⟩
      · cases hi
    | _ => cases hi
  | _ => cases hi
theorem RpF.find {K : PySem.W.Frag} {Z : Hp} {ι : List Addr} {gs : List (Str × V)} {fs : List (Str × D)} (h : RpF K Z ι gs fs) (k : Str) : (fs.lookup k = none ∧ gs.lookup k = none) ∨ ∃ d v, fs.lookup k = some d ∧ gs.lookup k = some v ∧ Rp K Z ι v d := by
  unfold RpF at h
  induction h with
  | nil => exact .inl ⟨rfl, rfl⟩
  | @cons p q ps qs hpq t ih =>
    obtain ⟨pk, pv⟩ := p
    obtain ⟨qk, qv⟩ := q
    obtain ⟨h1, h2⟩ := hpq
    dsimp only at h1 h2
    subst h1
    simp only [List.lookup_cons]
    cases k == pk with
    | true => exact .inr ⟨qv, pv, rfl, rfl, h2⟩
    | false => exact ih
def putFD (f : Str) (d : D) : List (Str × D) → List (Str × D)
  | [] => [(f, d)]
  | (g, e) :: r => if g = f then (g, d) :: r else (g, e) :: putFD f d r
theorem RpF.len {K : PySem.W.Frag} {Z : Hp} {ι : List Addr} {gs : List (Str × V)} {fs : List (Str × D)} (h : RpF K Z ι gs fs) : gs.length = fs.length := Paired.length h
theorem RpF.put {K : PySem.W.Frag} {Z : Hp} {ι : List Addr} {gs : List (Str × V)} {fs : List (Str × D)} {v : V} {d : D} (h : RpF K Z ι gs fs) (f : Str) (r : Rp K Z ι v d) : RpF K Z ι (putF f v gs) (putFD f d fs) := by
  unfold RpF at h ⊢
  induction h with
  | nil => exact .cons ⟨rfl, r⟩ .nil
  | @cons p q ps qs hpq t ih =>
    obtain ⟨pk, pv⟩ := p
    obtain ⟨qk, qv⟩ := q
    obtain ⟨h1, h2⟩ := hpq
    dsimp only at h1 h2
    subst h1
    unfold putF putFD
    by_cases e : pk = f
    · rw [if_pos e, if_pos e]; exact .cons ⟨rfl, r⟩ t
    · rw [if_neg e, if_neg e]; exact .cons ⟨rfl, h2⟩ ih
def mFld (C f : Str) (a : ME) : ME := fun ρ s => bnd (a ρ s) fun x s => match ins? s C x with
  | some nf => ofO (nf.2.lookup f) s
  | none => none
/-- o.f = v -/
def mFldSet (C f : Str) (o v : ME) : MS := fun ρ s => bndS (v ρ s) ρ fun d s => bndS (o ρ s) ρ fun x s => match ins? s C x with
  | some nf => if nf.2.length < 1000 then some (.nx ρ (s.set nf.1 (.ins C (putFD f d nf.2)))) else none
  | none => none
/-- o.m(..) -/
def mMeth (C m : Str) (fm : FM) (o : ME) (a : MA) : ME := fun ρ s => bnd (o ρ s) fun x s => match ins? s C x with
  | some nf => if (nf.2.lookup m).isNone = true then bnd (a ρ s) fun ds s => fm (x :: ds) s else none
  | none => none
/-- C(..) -/
def mMake (C : Str) (fm : FM) (a : MA) : ME := fun ρ s => bnd (a ρ s) fun ds s => match fm (.ref s.length :: ds) (s ++ [.ins C []]) with
  | some (.ok .non s') => some (.ok (.ref s.length) s')
  | some (.ex x s') => some (.ex x s')
  | _ => none
def mLenO (C : Str) (fm : FM) (o : ME) : ME := fun ρ s => bnd (o ρ s) fun x s => match ins? s C x with
  | some _ => bnd (fm [x] s) fun d s => (match d with
    | .int i => if 0 ≤ i ∧ i < 2 ^ 63 then some (.ok (.int i) s) else none
    | _ => none)
  | none => none
def mEqO (C : Str) (ok : Kd → Bool) (fm : FM) (a b : ME) : ME := fun ρ s => bnd (a ρ s) fun x s => bnd (b ρ s) fun y s => match ins? s C x, kdD s y with
  | some _, some k => if ok k = true then bnd (fm [x, y] s) fun d s => (match d with
    | .bl k => some (.ok (.bl k) s)
    | _ => none) else none
  | _, _ => none
def mNeO (C : Str) (ok : Kd → Bool) (fm : FM) (a b : ME) : ME := fun ρ s => bnd (a ρ s) fun x s => bnd (b ρ s) fun y s => match ins? s C x, kdD s y with
  | some _, some k => if ok k = true then bnd (fm [x, y] s) fun d s => (match d with
    | .bl k => some (.ok (.bl !k) s)
    | _ => none) else none
  | _, _ => none
theorem kontE {K : PySem.W.Frag} {W : WX} {σ : L2.St} {H : Hp} {Z : Hp} {ι : List Addr} {α β γ δ : Type} {rep : Hp → List Addr → β → α → Prop} {rep2 : Hp → List Addr → δ → γ → Prop} {m : MP.Env → Sto → RO α} {f : α → Sto → RO γ} {Q : δ → Hp → Prop} {ρ : MP.Env} {st : Sto} (e : EnvR K Z ι ρ σ) (r : Rel K st H Z ι) (p : Post K W σ Z ι H rep2 Q (bnd (m ρ st) f)) :
    rdG K W rep m σ H (fun b H1 => ∃ st1 Z1 ι1 a, m ρ st = some (.ok a st1) ∧ Grow Z ι H Z1 ι1 H1 ∧ EnvR K Z1 ι1 ρ σ ∧ Rel K st1 H1 Z1 ι1 ∧ rep Z1 ι1 b a ∧ Post K W σ Z1 ι1 H1 rep2 Q (f a st1)) := by
  refine ⟨ρ, st, Z, ι, e, r, ?_⟩
  cases hx : m ρ st with
  | none => rw [hx] at p; exact p.elim
  | some q => cases q with
    | ok a st1 =>
      rw [hx] at p
      exact fun b H' Z' ι' g r' q' => ⟨st1, Z', ι', a, rfl, g, e.mono g.toExt, r', q', (show Post K W σ Z ι H rep2 Q (f a st1) from p).grow g⟩
    | ex x st1 => rw [hx] at p; exact p
section
variable {X : Cx} {W : WX} {o e value : Expr} {es : List Expr} {p pos pos' apos : Pos} {mo me : ME} {ms : MA} {C f m x : Str} {k : Nat} {g : Addr} {fd : FuncData} {ps : List Str} {fm : FM} {ds : List Value} {dvs : List V} {dfs : List D}
theorem sd_fld (c : Cls X.K (He.ga X.K C)) (n : NoAttr X.K (He.ga X.K C) f) (ho : Sd X W o mo) (hb : attributeBase o f X.env (eval o X.env) = eval o X.env := by rfl) : Sd X W (.Attribute o f pos) (mFld C f mo) := by
  refine pe_imp (pe_fld ho hb) fun σ H Q ⟨ρ, st, Z, ι, en, r0, p⟩ => ?_
  refine rdG.mono (kont en r0 p) fun v H1 ⟨st1, Z1, ι1, x, g1, e1, r1, rx, p1⟩ => ?_
  cases hi : ins? st1 C x with
  | none => rw [hi] at p1; exact p1.elim
  | some nf =>
    obtain ⟨n', fs⟩ := nf
    rw [hi] at p1
    dsimp only at p1
    obtain ⟨a, dx, gs, rfl, rfl, hs, hn, hz, hH, hr⟩ := ins_at r1 rx hi
    rcases hr.find f with ⟨h1, _⟩ | ⟨d, v, h1, h2, hv⟩
    · rw [h1] at p1; exact p1.elim
    · rw [h1] at p1
      exact ⟨a, _, dx, gs, v, rfl, hH, c, n, h2, p1 _ _ _ _ (Grow.refl _ _ _) r1 hv⟩
theorem ss_fld (c : Cls X.K (He.ga X.K C)) (n : NoAttr X.K (He.ga X.K C) f) (ho : Sd X W o mo) (hv : Sd X W value me) (hs : swapsWith value (some (.Attribute o f pos')) pos.line X.env = pure false := by rfl) : SdS X W (.Assign [.Attribute o f pos'] value pos) (mFldSet C f mo me) := by
  refine ps_imp (ps_fld ho hv hs) fun E σ H ⟨ρ, st, Z, ι, en, r, p⟩ => ?_
  refine rdG.mono (skont en r p) fun v H1 ⟨st1, Z1, ι1, d, g1, e1, r1, rd1, p1⟩ => ?_
  refine rdG.mono (skont e1 r1 p1) fun w H2 ⟨st2, Z2, ι2, x, g2, e2, r2, rx, p2⟩ => ?_
  cases hi : ins? st2 C x with
  | none => rw [hi] at p2; exact p2.elim
  | some nf =>
    obtain ⟨n', fs⟩ := nf
    rw [hi] at p2
    dsimp only at p2
    split at p2
    · rename_i hl
      obtain ⟨a, dx, gs, rfl, rfl, hs, hn, hz, hH, hr⟩ := ins_at r2 rx hi
      obtain ⟨r4, g4⟩ := r2.change (o := .ins (He.ga X.K C) dx (putF f v gs)) (ob := .ins C (putFD f d fs)) hn hz fun H' e' => ⟨hz, _, _, e', hr.put f (rd1.mono g2.toExt)⟩
      exact ⟨a, _, dx, gs, rfl, hH, c, n, by rw [hr.len]; exact hl, PostS.nx_ (p2.grow g4) (e2.mono g4.toExt) r4⟩
    · exact p2.elim
/-- a def runs in a place with as much room -/
theorem run_atG {A' : Around} {pins : List (Addr × Obj)} {σ : L2.St} {H : Hp} {s : Shared} {Q : VK} {us : List Value} {vs : List V} {sp : Sp} (F : FnG X.prog X.w X.K X.mg X.base k g fd ps sp) (hr : Room k A') (hG : A'.guards = some []) (hfr : A'.frames = X.A.frames) (hb : Binds X.K fd ps ds) (hd : Vals dvs ds) (tk : Takes X W)
    (I : Inv X pins σ H s) (r : Vals vs us) (h : sp (vs ++ dvs) H Q (WE W σ)) : wpAny (model X.prog X.w) A' (call (.ref g) us) (EP X pins σ Q) X.xe s := by
  have r2 := r.append hd
  have b := hb s us I.kIn (by rw [← r2.length, F.len _ _ _ _ h])
  have e0 : Env0 X.prog X.w X.K X.mg X.base A' X.stack s H := ⟨by rw [hfr]; exact I.env0.frames, I.env0.mod, I.env0.bs, I.env0.bsz, I.env0.funs, I.env0.frf, I.env0.hok, I.env0.bare⟩
  refine wpAny_call (codeAny_mono (F.run A' X.stack s H ⟨us, []⟩ (us ++ ds) _ Q (WE W σ) hr hG e0 b r2 h) fun r s' hq => ?_)
  match r, hq with
  | .error e, hq => exact passAt tk σ pins H s e s' I hq
  | .ok (.ret u), hq => exact I.after hq
abbrev spG (X : Cx) (ps : List Str) (fm : FM) : Sp := spM X.K ps.length fm
theorem sp_of {σ : L2.St} {H Z : Hp} {ι : List Addr} {st : Sto} {Q : VK} {vs : List V} {dd : List D} (hl : dd.length = ps.length) (hv : RpL X.K Z ι vs dd) (r : Rel X.K st H Z ι) (p : Post X.K W σ Z ι H (Rp X.K) Q (fm dd st)) : spG X ps fm vs H Q (WE W σ) :=
  ⟨by rw [hv.length, hl], dd, st, Z, ι, hv, r, p.toE⟩
theorem sd_meth {pl : Sem Bool} (c : Cls X.K (He.ga X.K C)) (hm : Meth X.K (He.ga X.K C) m g) (G : FnG X.prog X.w X.K X.mg X.base k g fd ps (spM X.K ps.length fm)) (hr : Room k X.A) (hG : X.A.guards = some []) (hb : Binds X.K fd ps ds) (hd : Vals dvs ds) (hdd : ∀ Z ι, RpL X.K Z ι dvs dfs) (tk : Takes X W) (ho : Sd X W o mo) (ha : SdA X W (e :: es) ms)
    (hl : ∀ ρ s ds s', ms ρ s = some (.ok ds s') → ds.length + dfs.length + 1 = ps.length)
    (hst : starEach (e :: es) X.env = (false, eval e X.env) :: starEach es X.env := by rfl) (hpl : (backTo pos (starEach es X.env)).any (·.1) = false := by rfl)
    (ht : eval (.Call (.Attribute o m apos) (e :: es) [] pos) X.env = (do
      let ov ← eval o X.env
      standAt apos.atName
      let (f, first) ← holding [ov] (getMethod ov m pl)
      callWith pos f first (backTo pos (starEach (e :: es) X.env)) (backToKw pos (keywordEach [] X.env))) := by rfl) :
    Sd X W (.Call (.Attribute o m apos) (e :: es) [] pos) (mMeth C m (fun ds => fm (ds ++ dfs)) mo ms) := by
  refine ⟨fun pins s σ H Q I ⟨ρ, st, Z, ι, en, r0, p⟩ => ?_⟩
  refine PySem.W.methodCall_KW (pl := pl) (thn (ho.run pins s σ H _ I (kont en r0 p)) fun u s1 ⟨x, H1, I1, rx, st1, Z1, ι1, d, g1, e1, r1, rd1, p1⟩ => ?_) ht
  cases hi : ins? st1 C d with
  | none => rw [hi] at p1; exact p1.elim
  | some nf =>
    obtain ⟨n', fs⟩ := nf
    rw [hi] at p1
    dsimp only at p1
    obtain ⟨a, dx, gs, rfl, rfl, hs, hn, hz, hH, hr'⟩ := ins_at r1 rd1 hi
    obtain rfl : u = Value.ref a := rx
    rcases hr'.find m with ⟨h1, h2⟩ | ⟨d, v, h1, h2, hv⟩
    · rw [h1] at p1
      refine getmeth_ok I1 hH c hm h2 ?_
      have p2 : Post X.K W σ Z1 ι1 H1 (Rp X.K) Q (bnd (ms ρ st1) fun ds s => fm (.ref n' :: ds ++ dfs) s) := p1
      refine PySem.W.callWith_K (first := [.ref a]) (h₀ := X.base) I.ok.mod.kin hm.kp (thn (ha.run pos pins s1 σ H1 _ I1 (kontE e1 r1 p2)) fun us s2 ⟨vs, H2, I2, rv, st2, Z2, ι2, dd, he, g2, e2, r2, rdd, p3⟩ => ⟨I2.kIn, ?_⟩) hst hpl
      refine run_atG (us := .ref a :: us) (vs := .ref a :: vs) G hr hG rfl hb hd tk I2 (.cons rfl rv) (sp_of ?_ (.cons (.ref (g2.toExt.get hn)) (rdd.append (hdd _ _))) r2 p3)
      have := hl _ _ _ _ he
      simp only [List.length_cons, List.length_append]
      omega
    · rw [h1] at p1; exact p1.elim
theorem sd_meth0 {pl : Sem Bool} (c : Cls X.K (He.ga X.K C)) (hm : Meth X.K (He.ga X.K C) m g) (G : FnG X.prog X.w X.K X.mg X.base k g fd ps (spM X.K ps.length fm)) (hr : Room k X.A) (hG : X.A.guards = some []) (hb : Binds X.K fd ps ds) (hd : Vals dvs ds) (hdd : ∀ Z ι, RpL X.K Z ι dvs dfs) (tk : Takes X W) (ho : Sd X W o mo)
    (hl : dfs.length + 1 = ps.length)
    (ht : eval (.Call (.Attribute o m apos) [] [] pos) X.env = (do
      let ov ← eval o X.env
      standAt apos.atName
      let (f, first) ← holding [ov] (getMethod ov m pl)
      callWith pos f first (backTo pos (starEach [] X.env)) (backToKw pos (keywordEach [] X.env))) := by rfl) :
    Sd X W (.Call (.Attribute o m apos) [] [] pos) (mMeth C m (fun ds => fm (ds ++ dfs)) mo mNil) := by
  refine ⟨fun pins s σ H Q I ⟨ρ, st, Z, ι, en, r0, p⟩ => ?_⟩
  refine PySem.W.methodCall_KW (pl := pl) (thn (ho.run pins s σ H _ I (kont en r0 p)) fun u s1 ⟨x, H1, I1, rx, st1, Z1, ι1, d, g1, e1, r1, rd1, p1⟩ => ?_) ht
  cases hi : ins? st1 C d with
  | none => rw [hi] at p1; exact p1.elim
  | some nf =>
    obtain ⟨n', fs⟩ := nf
    rw [hi] at p1
    dsimp only at p1
    obtain ⟨a, dx, gs, rfl, rfl, hs, hn, hz, hH, hr'⟩ := ins_at r1 rd1 hi
    obtain rfl : u = Value.ref a := rx
    rcases hr'.find m with ⟨h1, h2⟩ | ⟨d, v, h1, h2, hv⟩
    · rw [h1] at p1
      refine getmeth_ok I1 hH c hm h2 (PySem.W.callWith_K0 (first := [.ref a]) I1.kIn hm.kp ?_)
      refine run_atG (us := [.ref a]) (vs := [.ref a]) G hr hG rfl hb hd tk I1 (.cons rfl .nil) (sp_of (dd := .ref n' :: dfs) (by simp only [List.length_cons]; omega) (.cons (.ref hn) (hdd _ _)) r1 p1)
    · rw [h1] at p1; exact p1.elim
theorem make_G {A : Around} {C : Addr} {us : List Value} {kw : List (Str × Value)} (h : A.guards = some []) : (A.under (.builtin "type.__call__" ⟨.ref C :: us, kw⟩)).guards = some [] := by
  first | exact h | (simp [Around.under, Code.isGuard, guardIds]; exact h)
theorem run_makeG {Cc : Addr} {pins : List (Addr × Obj)} {σ : L2.St} {H : Hp} {s : Shared} {Q : VK} {us : List Value} {vs : List V} {sp : Sp} (M : Mk X.K Cc g) (F : FnG X.prog X.w X.K X.mg X.base k g fd ps sp) (hr : Room (k + 1) X.A) (hG : X.A.guards = some []) (hb : Binds X.K fd ps ds) (hd : Vals dvs ds) (tk : Takes X W)
    (I : Inv X pins σ H s) (r : Vals vs us)
    (h : ∀ x dx, H x = none → H dx = none → dx ≠ x → sp (.ref x :: (vs ++ dvs)) (upd (upd H dx (.own x)) x (.ins Cc dx [])) (fun v H2 => v = .non ∧ Q (.ref x) H2) (WE W σ)) :
    wpAny (model X.prog X.w) X.A (call (.ref Cc) us) (EP X pins σ Q) X.xe s := by
  have hq := h (s.heap.objs.size + 1) s.heap.objs.size (I.hok.fresh (Nat.le_succ _)) (I.hok.fresh (Nat.le_refl _)) (Nat.ne_of_lt (Nat.lt_succ_self _))
  have I2 := Inv.made (C := Cc) I
  have r2 : Vals (V.ref (s.heap.objs.size + 1) :: (vs ++ dvs)) (Value.ref (s.heap.objs.size + 1) :: (us ++ ds)) := .cons rfl (r.append hd)
  have hl : (Value.ref (s.heap.objs.size + 1) :: us ++ ds).length = ps.length := (F.len _ _ _ _ hq ▸ r2.length).symm
  refine wpAny_call (make_map (f := g) I.kIn M.makes M.init (beq_iff_eq.mp M.fn) (codeAny_mono (F.run _ X.stack _ _ ⟨Value.ref (s.heap.objs.size + 1) :: us, []⟩ (Value.ref (s.heap.objs.size + 1) :: (us ++ ds)) _ _ (WE W σ) (hr.make Cc us []) (make_G hG)
    (I2.env0.make Cc us []) (hb _ (Value.ref (s.heap.objs.size + 1) :: us) I2.kIn hl) r2 hq) fun r s' hq' => ?_))
  match r, hq' with
  | .error e, hq' => exact passAt tk σ pins _ _ e s' I2 hq'
  | .ok (.ret u), hq' =>
    obtain ⟨v, H', I3, rv, ev, q3⟩ := I2.after hq'
    subst ev
    exact ⟨rv, ⟨V.ref (s.heap.objs.size + 1), H', I3, rfl, q3⟩⟩
theorem make_sp {σ : L2.St} {H1 Z1 : Hp} {ι1 : List Addr} {st1 : Sto} {Q : VK} {vs : List V} {dd : List D} (hl : dd.length + 1 = ps.length) (r1 : Rel X.K st1 H1 Z1 ι1) (rdd : RpL X.K Z1 ι1 vs dd)
    (p : Post X.K W σ Z1 ι1 H1 (Rp X.K) Q (match fm (.ref st1.length :: dd) (st1 ++ [.ins C []]) with
      | some (.ok .non s') => some (.ok (.ref st1.length) s')
      | some (.ex x s') => some (.ex x s')
      | _ => none)) :
    ∀ x dx, H1 x = none → H1 dx = none → dx ≠ x → spM X.K ps.length fm (.ref x :: vs) (upd (upd H1 dx (.own x)) x (.ins (He.ga X.K C) dx [])) (fun v H2 => v = .non ∧ Q (.ref x) H2) (WE W σ) := fun x dx hx hdx hne => by
  obtain ⟨r2, g2⟩ := r1.junk (o := .own x) hdx
  have hx2 : upd H1 dx (.own x) x = none := by rw [upd_ne (Ne.symm hne)]; exact hx
  obtain ⟨r3, g3⟩ := r2.box (o := .ins (He.ga X.K C) dx []) (ob := .ins C []) hx2 fun H' ι' e' z' g' => ⟨z', dx, [], e', .nil⟩
  have g4 := g2.trans g3
  have hn : (ι1 ++ [x])[st1.length]? = some x := by rw [← r1.len]; simp
  refine sp_of (dd := .ref st1.length :: dd) (by simp only [List.length_cons]; omega) (.cons (.ref hn) (rdd.mono g4.toExt)) r3 ?_
  have p' := p.grow g4
  cases hf : fm (.ref st1.length :: dd) (st1 ++ [.ins C []]) with
  | none => rw [hf] at p'; exact p'.elim
  | some q =>
    rw [hf] at p'
    cases q with
    | ex xx s' => exact p'
    | ok d s' =>
      cases d with
      | non => exact fun b H' Z' ι' g5 r5 hb => by cases hb; exact ⟨rfl, p' _ _ _ _ g5 r5 (.ref (g5.toExt.get hn))⟩
      | _ => exact p'.elim
theorem sd_make (M : Mk X.K (He.ga X.K C) g) (G : FnG X.prog X.w X.K X.mg X.base k g fd ps (spM X.K ps.length fm)) (hr : Room (k + 1) X.A) (hG : X.A.guards = some []) (hm : X.mg x = some (.ref (He.ga X.K C))) (hb : Binds X.K fd ps ds) (hd : Vals dvs ds) (hdd : ∀ Z ι, RpL X.K Z ι dvs dfs) (tk : Takes X W) (ha : SdA X W (e :: es) ms)
    (hl : ∀ ρ s ds s', ms ρ s = some (.ok ds s') → ds.length + dfs.length + 1 = ps.length) (hg : Gl X x := by rfl) (hdb : (x == ("__debug__" : Str)) = false := by decide)
    (he : starEach (e :: es) X.env = (false, eval e X.env) :: starEach es X.env := by rfl) (hpl : (backTo pos (starEach es X.env)).any (·.1) = false := by rfl) :
    Sd X W (.Call (.Name x p) (e :: es) [] pos) (mMake C (fun ds => fm (ds ++ dfs)) ms) := by
  refine ⟨fun pins s σ H Q I ⟨ρ, st, Z, ι, en, r0, p⟩ => ?_⟩
  refine PySem.wpAny_Call_Name_kw (ld_glob I hg hm ?_ hdb)
  refine PySem.W.callWith_K (h₀ := X.base) I.ok.mod.kin M.kp (thn (ha.run pos pins s σ H _ I (kontE en r0 p)) fun us s2 ⟨vs, H2, I2, rv, st2, Z2, ι2, dd, hms, g2, e2, r2, rdd, p3⟩ => ⟨I2.kIn, ?_⟩) he hpl
  refine run_makeG M G hr hG hb hd tk I2 rv (make_sp (dd := dd ++ dfs) ?_ r2 (rdd.append (hdd _ _)) p3)
  have := hl _ _ _ _ hms
  rw [List.length_append]
  omega
theorem sd_make0 (M : Mk X.K (He.ga X.K C) g) (G : FnG X.prog X.w X.K X.mg X.base k g fd ps (spM X.K ps.length fm)) (hr : Room (k + 1) X.A) (hG : X.A.guards = some []) (hm : X.mg x = some (.ref (He.ga X.K C))) (hb : Binds X.K fd ps ds) (hd : Vals dvs ds) (hdd : ∀ Z ι, RpL X.K Z ι dvs dfs) (tk : Takes X W)
    (hl : dfs.length + 1 = ps.length) (hg : Gl X x := by rfl) (hdb : (x == ("__debug__" : Str)) = false := by decide) :
    Sd X W (.Call (.Name x p) [] [] pos) (mMake C (fun ds => fm (ds ++ dfs)) mNil) := by
  refine ⟨fun pins s σ H Q I ⟨ρ, st, Z, ι, en, r0, p⟩ => ?_⟩
  refine PySem.wpAny_Call_Name_kw (ld_glob I hg hm ?_ hdb)
  exact PySem.W.callWith_K0 I.kIn M.kp (run_makeG (us := []) (vs := []) M G hr hG hb hd tk I .nil (make_sp (dd := dfs) hl r0 (hdd _ _) p))
end
end MP

set_option Elab.async false
set_option linter.all false
set_option maxRecDepth 100000
set_option maxHeartbeats 4000000
/-! MPD: len, == and != of instances by their own methods -/
namespace MP
open PySem L2
theorem one_read {K : PySem.W.Frag} {W : WX} {m : ME} {F : D → Sto → RO D} {σ : L2.St} {H : Hp} {Q : VK} (h : rd K W (fun ρ s => bnd (m ρ s) F) σ H Q) :
    rd K W m σ H fun v H1 => ∃ st1 Z1 ι1 x, Rel K st1 H1 Z1 ι1 ∧ Rp K Z1 ι1 v x ∧ Post K W σ Z1 ι1 H1 (Rp K) Q (F x st1) := by
  obtain ⟨ρ, st, Z, ι, e, r, p⟩ := h
  exact rdG.mono (kont e r p) fun v H1 ⟨st1, Z1, ι1, x, g1, e1, r1, rx, p1⟩ => ⟨st1, Z1, ι1, x, r1, rx, p1⟩
theorem two_read {K : PySem.W.Frag} {W : WX} {ma mb : ME} {F : D → D → Sto → RO D} {σ : L2.St} {H : Hp} {Q : VK} (h : rd K W (fun ρ s => bnd (ma ρ s) fun x s => bnd (mb ρ s) fun y s => F x y s) σ H Q) :
    rd K W ma σ H fun v H1 => rd K W mb σ H1 fun u H2 => ∃ st2 Z2 ι2 x y, Rel K st2 H2 Z2 ι2 ∧ Rp K Z2 ι2 v x ∧ Rp K Z2 ι2 u y ∧ Post K W σ Z2 ι2 H2 (Rp K) Q (F x y st2) := by
  obtain ⟨ρ, st, Z, ι, e, r, p⟩ := h
  exact rdG.mono (kont e r p) fun v H1 ⟨st1, Z1, ι1, x, g1, e1, r1, rx, p1⟩ => rdG.mono (kont e1 r1 p1) fun u H2 ⟨st2, Z2, ι2, y, g2, e2, r2, ry, p2⟩ => ⟨st2, Z2, ι2, x, y, r2, rx.mono g2.toExt, ry, p2⟩
section
variable {X : Cx} {W : WX} {o e a b : Expr} {p pos : Pos} {mo ma mb : ME} {C : Str} {k : Nat} {g : Addr} {fd : FuncData} {ps : List Str} {fm : FM}
def lenF (C : Str) (fm : FM) : D → Sto → RO D := fun x s => match ins? s C x with
  | some _ => bnd (fm [x] s) fun d s => (match d with
    | .int i => if 0 ≤ i ∧ i < 2 ^ 63 then some (.ok (.int i) s) else none
    | _ => none)
  | none => none
theorem sd_lenO (hs : PySem.W.findIn X.K (.ref (He.ga X.K C)) "__len__" = some (some (.ref g))) (hf : PySem.W.isFn X.K (.ref g) = true) (G : FnG X.prog X.w X.K X.mg X.base k g fd ps (spM X.K ps.length fm)) (hr : Room (k + 1) X.A) (hG : X.A.guards = some []) (hb : Binds X.K fd ps []) (tk : Takes X W) (ho : Sd X W o mo)
    (hm : X.mg "len" = none) (hl : ps.length = 1) (hg : Gl X "len" := by rfl) (he : starEach [o] X.env = (false, eval o X.env) :: starEach [] X.env := by rfl) (hpl : (backTo pos (starEach [] X.env)).any (·.1) = false := by rfl) :
    Sd X W (.Call (.Name "len" p) [o] [] pos) (mLenO C fm mo) := by
  refine ⟨fun pins s σ H Q I h => ?_⟩
  refine PySem.wpAny_Call_Name_kw (ld_blt I hg hm (by rfl) ?_ (by decide) (by decide))
  refine PyProof.Rows.callWith_builtin1 (thn ((pa_cons ho pa_nil he).run pos pins s σ H (fun vs H1 => ∃ v, vs = [v] ∧ ∃ st1 Z1 ι1 d, Rel X.K st1 H1 Z1 ι1 ∧ Rp X.K Z1 ι1 v d ∧ Post X.K W σ Z1 ι1 H1 (Rp X.K) Q (lenF C fm d st1)) I (rdG.mono (one_read (F := lenF C fm) h) fun v H1 q => ⟨v, rfl, q⟩)) fun us s1 ⟨vs, H1, I1, rv, v, ev, st1, Z1, ι1, d, r1, rd1, p1⟩ => ?_) he hpl
  subst ev
  unfold lenF at p1
  cases hi : ins? st1 C d with
  | none => rw [hi] at p1; exact p1.elim
  | some nf =>
    obtain ⟨n', fs⟩ := nf
    rw [hi] at p1
    dsimp only at p1
    obtain ⟨a, dx, gs, rfl, rfl, hst, hn, hz, hH, hr'⟩ := ins_at r1 rd1 hi
    rw [Vals.ref1 rv]
    obtain ⟨mA, J, _⟩ := ins_get I1.hok hH
    obtain ⟨od, J, _⟩ := J.look
    obtain ⟨m, hF⟩ := I1.fr
    refine PySem.W.len_K hF I1.ok.mod.kin J hs hf ?_
    have hsp : spM X.K ps.length fm [.ref a] H1 (fun v H2 => ∃ i, v = .int i ∧ (0 ≤ i ∧ i < 2 ^ 63) ∧ Q (.int i) H2) (WE W σ) := by
      refine sp_of (dd := [.ref n']) (by rw [hl]; rfl) (.cons (.ref hn) .nil) r1 ?_
      cases hq : fm [.ref n'] st1 with
      | none => rw [hq] at p1; exact p1.elim
      | some q =>
        rw [hq] at p1
        cases q with
        | ex x s' => exact p1
        | ok d s' =>
          dsimp only [bnd_ok] at p1
          intro v H2 Z2 ι2 g2 r2 rv2
          cases rv2 with
          | int i =>
            dsimp only at p1
            split at p1
            · rename_i hc
              exact ⟨i, rfl, hc, p1 _ _ _ _ g2 r2 (.int i)⟩
            · exact p1.elim
          | _ => exact p1.elim
    refine wpAny_mono (run_atG (us := [.ref a]) (vs := [.ref a]) (dvs := []) (ds := []) G hr.in1 (by exact hG) rfl hb .nil tk I1 (.cons rfl .nil) hsp) (fun u s2 ⟨v, H2, I2, rv2, i, ev, hc, q⟩ => ?_) fun _ _ x => x
    subst ev
    obtain ⟨t, rfl⟩ := rv2
    exact ⟨hc, .int i, H2, I2.tok _, ⟨_, rfl⟩, q⟩
/-- what the right side's kind must not be: a class below -/
def EqOk (X : Cx) (C : Str) (ok : Kd → Bool) : Prop := ∀ k, ok k = true → (∀ t, k = .t t → t ∈ bNames) → PySem.W.notFirst X.K (He.ga X.K C) (kdV X.K k) = true ∧ ∀ C, k = .o C → OwnOk X.K C
theorem ty_looks {st : Sto} {H Z : Hp} {ι : List Addr} {v : V} {d : D} {k : Kd} {u : Value} {pins : List (Addr × Obj)} {σ : L2.St} {s : Shared} (I : Inv X pins σ H s) (r : Rel X.K st H Z ι) (h : Rp X.K Z ι v d) (hk : kdD st d = some k) (ho : ∀ C, k = .o C → OwnOk X.K C) (ru : RelV v u) : PySem.W.Looks (model X.prog X.w) s.heap (typeOf u) (kdV X.K k) := by
  obtain ⟨P, Zk, pk, _⟩ := kit_of I ru (ty_of r h hk ho)
  exact Zk.ty _ _ I.kIn pk
/-- the own method's answer, a truth -/
theorem own_bool {Q : VK} {A' : Around} {pins : List (Addr × Obj)} {σ : L2.St} {s2 : Shared} {H2 Z2 : Hp} {ι2 : List Addr} {st2 : Sto} {x y : D} {v w : V} {u u2 : Value} {c : Bool → Bool} (G : FnG X.prog X.w X.K X.mg X.base k g fd ps (spM X.K ps.length fm)) (hr : Room k A') (hG : A'.guards = some []) (hfr : A'.frames = X.A.frames) (hb : Binds X.K fd ps []) (tk : Takes X W) (hl : ps.length = 2)
    (I2 : Inv X pins σ H2 s2) (r2 : Rel X.K st2 H2 Z2 ι2) (rx : Rp X.K Z2 ι2 v x) (ry : Rp X.K Z2 ι2 w y) (rv : RelV v u) (rw' : RelV w u2)
    (p2 : Post X.K W σ Z2 ι2 H2 (Rp X.K) Q (bnd (fm [x, y] st2) fun d s => match d with
      | .bl k => some (.ok (.bl (c k)) s)
      | _ => none)) :
    wpAny (model X.prog X.w) A' (call (.ref g) [u, u2]) (fun z s' => ∃ b, z = .bool b ∧ EP X pins σ Q (.bool (c b)) s') X.xe s2 := by
  have hsp : spM X.K ps.length fm [v, w] H2 (fun z H3 => ∃ b, z = .bl b ∧ Q (.bl (c b)) H3) (WE W σ) := by
    refine sp_of (dd := [x, y]) (by rw [hl]; rfl) (.cons rx (.cons ry .nil)) r2 ?_
    cases hq : fm [x, y] st2 with
    | none => rw [hq] at p2; exact p2.elim
    | some q =>
      rw [hq] at p2
      cases q with
      | ex x s' => exact p2
      | ok d s' =>
        dsimp only [bnd_ok] at p2
        intro z H3 Z3 ι3 g3 r3 rz
        cases rz with
        | bl b => exact ⟨b, rfl, p2 _ _ _ _ g3 r3 (.bl _)⟩
        | _ => exact p2.elim
  refine wpAny_mono (run_atG (us := [u, u2]) (vs := [v, w]) (dvs := []) (ds := []) G hr hG hfr hb .nil tk I2 (.cons rv (.cons rw' .nil)) hsp) (fun z s3 ⟨v3, H3, I3, rv3, b, ev, q⟩ => ?_) fun _ _ x => x
  subst ev
  cases rv3
  exact ⟨b, rfl, .bl (c b), H3, I3, rfl, q⟩
theorem sd_eqO {ok : Kd → Bool} (hok : EqOk X C ok) (hs : PySem.W.findIn X.K (.ref (He.ga X.K C)) "__eq__" = some (some (.ref g))) (hf : PySem.W.isFn X.K (.ref g) = true) (G : FnG X.prog X.w X.K X.mg X.base k g fd ps (spM X.K ps.length fm)) (hr : Room k X.A) (hG : X.A.guards = some []) (hb : Binds X.K fd ps []) (tk : Takes X W) (hl : ps.length = 2)
    (ha : Sd X W a ma) (hb' : Sd X W b mb) (hm : behindInMarks .Eq b = false := by first | exact nomark _ | rfl) : Sd X W (.Compare a [.Eq] [b] pos) (mEqO C ok fm ma mb) := by
  refine ⟨fun pins s σ H Q I h => ?_⟩
  refine wpAny_Compare1 (binT ha hb' I (two_read h) fun v u s2 xv yv H2 I2 rv ru ⟨st2, Z2, ι2, x, y, r2, rx2, ry, p2⟩ => ?_) hm
  cases hi : ins? st2 C x with
  | none => rw [hi] at p2; exact p2.elim
  | some nf => cases hk : kdD st2 y with
    | none => rw [hi, hk] at p2; exact p2.elim
    | some kd =>
      rw [hi, hk] at p2
      dsimp only at p2
      split at p2
      · rename_i hokk
        obtain ⟨h1, h2⟩ := hok kd hokk fun t e => kd_names (e ▸ hk)
        obtain ⟨n', fs⟩ := nf
        obtain ⟨a', dx, gs, rfl, ex, hst, hn, hz, hH, hr'⟩ := ins_at r2 rx2 hi
        obtain rfl : v = Value.ref a' := rv
        obtain ⟨mA, J, _⟩ := ins_get I2.hok hH
        obtain ⟨od, J, _⟩ := J.look
        obtain ⟨m, hF⟩ := I2.fr
        show wpAny (model X.prog X.w) X.A (richCompare .Eq (.ref a') u) (EP X pins σ Q) X.xe s2
        refine PySem.W.cmp_K (op := .Eq) hr.units0 hF I2.ok.mod.kin J (ty_looks I2 r2 ry hk h2 ru) h1 hs hf ?_
        refine wpAny_mono (own_bool (c := id) G hr hG rfl hb tk hl I2 r2 rx2 ry rfl ru p2) (fun z s3 ⟨b, e, q⟩ => ?_) fun _ _ x => x
        subst e
        exact q
      · exact p2.elim
end
/-! ### != through object.__ne__ -/
theorem slot_ne : Slot "object" "__ne__" "object.__ne__" := PySem.F.cmp_object.ne
theorem ne_own {prog : Program} {w : World} {A : Around} {E : Value → Shared → Prop} {s : Shared} {K : PySem.W.Frag} {x C f : Addr} {ox : Obj} {od : Option Obj} {b tb : Value} {Q : Value → Shared → Prop} (hu : A.units + 1 < cLine) (XK : K.In s.heap) (I : PySem.W.InstAt s.heap x ox C od) (hb : PySem.W.Looks (model prog w) s.heap (typeOf b) tb) (hn : PySem.W.notFirst K C tb = true)
    (hs : PySem.W.findIn K (.ref C) "__ne__" = some (some (.builtin "object.__ne__"))) (hs2 : PySem.W.findIn K (.ref C) "__eq__" = some (some (.ref f))) (hf : PySem.W.isFn K (.ref f) = true) (hob : PySem.W.mroIn K C (.type "object") = some true)
    (h : wpAny (model prog w) A.in1 (call (.ref f) [.ref x, b]) (fun v s' => ∃ k, v = .bool k ∧ Q (.bool !k) s') E s) : wpAny (model prog w) A (richCompare .NotEq (.ref x) b) Q E s := by
  have cl : wpAny (model prog w) A (call (.builtin "object.__ne__") [.ref x, b]) (fun v s' => ∃ k, v = .bool k ∧ Q (.bool k) s') E s := by
    refine wpAny_call (codeAny_call_builtin slot_ne.plain PySem.F.cmpEntry_ne ?_)
    have ha := PySem.F.cmpArgs_ne (.ref x) b
    simp only [checkBuiltinCall, PySem.F.cmpKind_ne, PySem.F.cmpSplit_ne]
    refine wpAny_bind ?_
    unfold isInstance
    refine wpAny_bind (I.type.here ?_)
    refine (PySem.W.looks_mroIn XK hob).here ?_
    have hq : wpAny (model prog w) A.in1 (Builtin.«object.__ne__» ⟨[.ref x, b], []⟩) (fun fin s' => match fin with
          | .done f => (match (Except.ok f : Result) with
            | .ok (.ret v) => ∃ k, v = Value.bool k ∧ Q (Value.bool k) s'
            | .ok _ => False
            | .error e => E e s')
          | .again c' => c'.quiet = true ∧ codeAny (model prog w) A c' (fun r s' => match r with
            | .ok (.ret v) => ∃ k, v = Value.bool k ∧ Q (Value.bool k) s'
            | .ok _ => False
            | .error e => E e s') s') (fun e s' => E e s') s := by
      unfold Builtin.«object.__ne__»
      repeat (first | with_reducible refine wpAny_cRoomFor hu ?_ | (with_reducible refine PySem.W.ifBound_K XK I hs2 hf (wpAny_mono h (fun v s' hv => ?_) fun _ _ e => e)) | wp_step)
      obtain ⟨k, rfl, q⟩ := hv
      show wpAny _ _ (truthy (.bool k) >>= fun l => ret (Value.bool !l)) _ _ _
      repeat wp_step
      exact ⟨_, rfl, q⟩
    simp only [Bool.not_true, Bool.false_eq_true, if_false]
    cases hsig : Manifest.signature? "object.__ne__" with
    | none => exact wpAny_pure hq
    | some sig =>
      simp only [argsOk, hsig] at ha
      show wpAny _ _ (Bind.checkArgs "object.__ne__" sig ⟨[.ref x, b], []⟩) _ _ _
      rw [show Bind.checkArgs "object.__ne__" sig ⟨[.ref x, b], []⟩ = pure () from ha]
      exact wpAny_pure hq
  have one : wpAny (model prog w) A (tryCompare (.ref x) "__ne__" b) (fun r s' => ∃ v, r = some v ∧ Q v s') E s := by
    unfold tryCompare
    refine wpAny_bind ?_
    simp only [callSpecialIfBound?, bindSpecialIfBound?]
    refine wpAny_holding (wpAny_bind (wpAny_bind (wpAny_bind (I.type.here ((PySem.W.looks_findIn XK hs).here ?_)))))
    refine wpAny_bind (wpAny_askSetting (wpAny_ite ?_))
    simp only [slot_ne.bind]
    have fin : wpAny (model prog w) A (call (.builtin "object.__ne__") ([.ref x] ++ [b]) >>= fun v => pure (some v)) (fun r s₁ => wpAny (model prog w) A (match r with | some .notImplemented | none => pure none | some v => pure (some v)) (fun r s' => ∃ v, r = some v ∧ Q v s') E s₁) E s :=
      wpAny_bind (wpAny_mono cl (fun v s' ⟨k, e, q⟩ => wpAny_pure (by subst e; exact wpAny_pure ⟨_, rfl, q⟩)) fun _ _ h' => h')
    split
    · exact wpAny_bind (wpAny_pure (wpAny_pure fin))
    · exact wpAny_tryCatch (wpAny_bind (wpAny_pure (wpAny_pure fin)))
  unfold richCompare
  simp only [oneThing_ref]
  refine wpAny_holding (wpAny_bind (wpAny_cRoomFor (by omega) ?_))
  refine wpAny_bind (I.type.here (wpAny_bind (hb.here ?_)))
  split
  · rename_i q
    have e : PySem.W.subIn K tb (.ref C) = some false := by
      rcases Bool.or_eq_true_iff.mp hn with e | e
      · rw [beq_iff_eq.mp e] at q; simp at q
      · exact beq_iff_eq.mp e
    refine wpAny_bind ((PySem.W.looks_subIn XK e).here ?_)
    simp only [Bool.false_eq_true, if_false]
    refine wpAny_bind (wpAny_mono one (fun r s' z => ?_) fun _ _ e => e)
    obtain ⟨v, rfl, hq⟩ := z
    exact wpAny_pure hq
  · refine wpAny_bind (wpAny_pure ?_)
    simp only [Bool.false_eq_true, if_false]
    refine wpAny_bind (wpAny_mono one (fun r s' z => ?_) fun _ _ e => e)
    obtain ⟨v, rfl, hq⟩ := z
    exact wpAny_pure hq
theorem sd_neO {X : Cx} {W : WX} {a b : Expr} {pos : Pos} {ma mb : ME} {C : Str} {k : Nat} {g : Addr} {fd : FuncData} {ps : List Str} {fm : FM} {ok : Kd → Bool} (hok : EqOk X C ok) (hs1 : PySem.W.findIn X.K (.ref (He.ga X.K C)) "__ne__" = some (some (.builtin "object.__ne__"))) (hob : PySem.W.mroIn X.K (He.ga X.K C) (.type "object") = some true) (hs : PySem.W.findIn X.K (.ref (He.ga X.K C)) "__eq__" = some (some (.ref g))) (hf : PySem.W.isFn X.K (.ref g) = true) (G : FnG X.prog X.w X.K X.mg X.base k g fd ps (spM X.K ps.length fm)) (hr : Room (k + 1) X.A) (hG : X.A.guards = some []) (hb : Binds X.K fd ps []) (tk : Takes X W) (hl : ps.length = 2)
    (ha : Sd X W a ma) (hb' : Sd X W b mb) (hm : behindInMarks .NotEq b = false := by first | exact nomark _ | rfl) : Sd X W (.Compare a [.NotEq] [b] pos) (mNeO C ok fm ma mb) := by
  refine ⟨fun pins s σ H Q I h => ?_⟩
  refine wpAny_Compare1 (binT ha hb' I (two_read h) fun v u s2 xv yv H2 I2 rv ru ⟨st2, Z2, ι2, x, y, r2, rx2, ry, p2⟩ => ?_) hm
  cases hi : ins? st2 C x with
  | none => rw [hi] at p2; exact p2.elim
  | some nf => cases hk : kdD st2 y with
    | none => rw [hi, hk] at p2; exact p2.elim
    | some kd =>
      rw [hi, hk] at p2
      dsimp only at p2
      split at p2
      · rename_i hokk
        obtain ⟨h1, h2⟩ := hok kd hokk fun t e => kd_names (e ▸ hk)
        obtain ⟨n', fs⟩ := nf
        obtain ⟨a', dx, gs, rfl, ex, hst, hn, hz, hH, hr'⟩ := ins_at r2 rx2 hi
        obtain rfl : v = Value.ref a' := rv
        obtain ⟨mA, J, _⟩ := ins_get I2.hok hH
        obtain ⟨od, J, _⟩ := J.look
        show wpAny (model X.prog X.w) X.A (richCompare .NotEq (.ref a') u) (EP X pins σ Q) X.xe s2
        refine ne_own (by have := hr.un; omega) I2.kIn J (ty_looks I2 r2 ry hk h2 ru) h1 hs1 hs hf hob ?_
        exact own_bool (c := fun b => !b) G hr.in1 (by exact hG) rfl hb tk hl I2 r2 rx2 ry rfl ru p2
      · exact p2.elim
end MP

set_option Elab.async false
set_option linter.all false
set_option maxRecDepth 100000
set_option maxHeartbeats 4000000
/-! MPE: defs with their readings, calls of them, the law's end -/
namespace MP
open PySem L2

theorem takes0 {Y : Cx} : Takes Y W0 := fun u s' ⟨a, B, sI, pins, σ, H, cls, d, e, I, nb, up, sky, na, os, ag, w⟩ => w.elim
/-- any statement, where the reading says nothing -/
def mHalt : MS := fun _ _ => none
theorem ss_halt {X : Cx} {W : WX} {s : Stmt} : SdS X W s mHalt := ⟨fun pins s σ H D I ⟨ρ, st, Z, ι, e, r, p⟩ => p.elim⟩
theorem sb_halt {X : Cx} {W : WX} {s : List Stmt} : SdB X W s mHalt := ⟨fun pins s σ H D I ⟨ρ, st, Z, ι, e, r, p⟩ => p.elim⟩
def mNo : ME := fun _ _ => none
theorem sd_no {X : Cx} {W : WX} {e : Expr} : Sd X W e mNo := ⟨fun pins s σ H Q I ⟨ρ, st, Z, ι, e, r, p⟩ => p.elim⟩
/-- the def at f is what fm says; ps its parameters, dvs its defaults -/
def OkF (P : Program) (w : World) (K : PySem.W.Frag) (mg : Str → Option Value) (base : Heap) (k : Nat) (f : Addr) (ps : List Str) (dvs : List V) (fm : FM) : Prop :=
  ∃ fd, PySem.W.keepIn K (.ref f) = true ∧ FnG P w K mg base k f fd ps (spM K ps.length fm) ∧ Binds K fd ps [] ∧ ∃ ds, Vals dvs ds ∧ Binds K fd ps ds
section
variable {P : Program} {w : World} {K : PySem.W.Frag} {mg : Str → Option Value} {base : Heap} {x qual : Str} {params : Arguments} {body : List Stmt} {scope : Scope} {kws : List (Str × V)} {f : Addr} {fd : FuncData} {N ps : List Str} {k : Nat} {m : MS}
theorem okF_halt {dvs : List V} {fm : FM} (h : ∀ ds s, fm ds s = none) (F : ∃ fd, PySem.W.keepIn K (.ref f) = true ∧ Binds K fd ps [] ∧ ∃ ds, Vals dvs ds ∧ Binds K fd ps ds) : OkF P w K mg base k f ps dvs fm := by
  obtain ⟨fd, h1, h2, h3⟩ := F
  exact ⟨fd, h1, ⟨fun vs H Q E q => q.1, fun A outer s H args us vs Q E _ _ _ _ _ q => by
    obtain ⟨_, ds, st, Z, ι, _, _, p⟩ := q
    rw [h] at p
    exact p.elim⟩, h2, h3⟩
/-- a def without defaults -/
theorem okF {dvs : List V} (hd : dvs = []) (F : FunD K x qual params body scope dvs kws f fd) (S : FnScope N ps scope) (hle : ps.length ≤ N.length)
    (hbind : ∀ (kV doc pm : Value) (an : Option Addr) (cdv ct : Value) (us : List Value), us.length = ps.length → bindArgs (PySem.W.fnOf x qual params body scope .none kV doc pm an cdv ct) ⟨us, []⟩ = pure (ps.zip us))
    (hb : ∀ (cdv : Value) (A : Around) (outer : List PySem.Env) (s : Shared) (H : Hp) (E : XK), Ctx P w K mg base N scope k (cxOf (L2.CX P w) P w K mg base N qual scope f cdv A outer s H E) (fun c d _ H' => E c d H') →
      SdB (cxOf (L2.CX P w) P w K mg base N qual scope f cdv A outer s H E) (fun c d _ H' => E c d H') body m) :
    OkF P w K mg base (k + 1) f ps [] (fnM N.length m) := by
  subst hd
  have b := F.bindsN hbind
  exact ⟨fd, F.kp, fn_ok F S hle hb, b, [], .nil, b⟩
/-- a def with one default -/
theorem okF1 {dvs : List V} {v : V} (hd : dvs = [v]) (F : FunD K x qual params body scope dvs kws f fd) (S : FnScope N ps scope) (hle : ps.length ≤ N.length) (n : Nat) (hn : n + 1 = ps.length)
    (h0 : ∀ (T : Addr) (kV doc pm : Value) (an : Option Addr) (cdv ct : Value) (us its : List Value), us.length = n + 1 → its.length = 1 →
      ∃ k, bindArgs (PySem.W.fnOf x qual params body scope (.ref T) kV doc pm an cdv ct) ⟨us, []⟩ = seqItems? (.ref T) >>= k ∧ k (some its.toArray) = pure (ps.zip (us ++ its.drop 1)))
    (h1 : ∀ (T : Addr) (kV doc pm : Value) (an : Option Addr) (cdv ct : Value) (us its : List Value), us.length = n → its.length = 1 →
      ∃ k, bindArgs (PySem.W.fnOf x qual params body scope (.ref T) kV doc pm an cdv ct) ⟨us, []⟩ = seqItems? (.ref T) >>= k ∧ k (some its.toArray) = pure (ps.zip (us ++ its.drop 0)))
    (hb : ∀ (cdv : Value) (A : Around) (outer : List PySem.Env) (s : Shared) (H : Hp) (E : XK), Ctx P w K mg base N scope k (cxOf (L2.CX P w) P w K mg base N qual scope f cdv A outer s H E) (fun c d _ H' => E c d H') →
      SdB (cxOf (L2.CX P w) P w K mg base N qual scope f cdv A outer s H E) (fun c d _ H' => E c d H') body m) :
    OkF P w K mg base (k + 1) f ps [v] (fnM N.length m) := by
  subst hd
  obtain ⟨ds0, hv0, b0⟩ := F.binds1 (n + 1) 1 (List.cons_ne_nil _ _) (by simpa using hn) h0
  obtain ⟨ds1, hv1, b1⟩ := F.binds1 n 0 (List.cons_ne_nil _ _) (by simpa using hn) h1
  have e : ds0 = [] := by cases hv0; rfl
  subst e
  exact ⟨fd, F.kp, fn_ok F S hle hb, b0, ds1, hv1, b1⟩
end
section
variable {X : Cx} {W : WX} {e o a b : Expr} {es : List Expr} {p pos apos : Pos} {ms : MA} {mo ma mb : ME} {k j : Nat} {f : Addr} {ps : List Str} {fm : FM} {x C m : Str} {dvs : List V} {dfs : List D}
/-- f(e, ..), all parameters written -/
theorem sd_callO (O : OkF X.prog X.w X.K X.mg X.base j f ps dvs fm) (hr : Room k X.A) (hk : j ≤ k) (hG : X.A.guards = some []) (hm : X.mg x = some (.ref f)) (tk : Takes X W) (ha : SdA X W (e :: es) ms)
    (hl : ∀ ρ s ds s', ms ρ s = some (.ok ds s') → ds.length = ps.length) (hg : Gl X x := by rfl) (hdb : (x == ("__debug__" : Str)) = false := by decide) (he : starEach (e :: es) X.env = (false, eval e X.env) :: starEach es X.env := by rfl) (hpl : (backTo pos (starEach es X.env)).any (·.1) = false := by rfl) :
    Sd X W (.Call (.Name x p) (e :: es) [] pos) (mCall fm ms) := by
  obtain ⟨fd, kp, G, b0, _⟩ := O
  exact sd_call G (hr.mono hk) hG hm kp b0 tk ha hl hg hdb he hpl
/-- f(e, ..), the defaults fill up -/
theorem sd_callOD (O : OkF X.prog X.w X.K X.mg X.base j f ps dvs fm) (hr : Room k X.A) (hk : j ≤ k) (hG : X.A.guards = some []) (hm : X.mg x = some (.ref f)) (hdd : ∀ Z ι, RpL X.K Z ι dvs dfs) (tk : Takes X W) (ha : SdA X W (e :: es) ms)
    (hl : ∀ ρ s ds s', ms ρ s = some (.ok ds s') → ds.length + dfs.length = ps.length) (hg : Gl X x := by rfl) (hdb : (x == ("__debug__" : Str)) = false := by decide) (he : starEach (e :: es) X.env = (false, eval e X.env) :: starEach es X.env := by rfl) (hpl : (backTo pos (starEach es X.env)).any (·.1) = false := by rfl) :
    Sd X W (.Call (.Name x p) (e :: es) [] pos) (mCall (fun ds => fm (ds ++ dfs)) ms) := by
  obtain ⟨fd, kp, G, _, ds, hv, b1⟩ := O
  exact sd_callD G (hr.mono hk) hG hm kp b1 hv hdd tk ha hl hg hdb he hpl
/-- o.m(e, ..) -/
theorem sd_methO {pl : Sem Bool} (c : Cls X.K (He.ga X.K C)) (hm : Meth X.K (He.ga X.K C) m f) (O : OkF X.prog X.w X.K X.mg X.base j f ps dvs fm) (hr : Room k X.A) (hk : j ≤ k) (hG : X.A.guards = some []) (tk : Takes X W) (ho : Sd X W o mo) (ha : SdA X W (e :: es) ms)
    (hl : ∀ ρ s ds s', ms ρ s = some (.ok ds s') → ds.length + 1 = ps.length)
    (hst : starEach (e :: es) X.env = (false, eval e X.env) :: starEach es X.env := by rfl) (hpl : (backTo pos (starEach es X.env)).any (·.1) = false := by rfl)
    (ht : eval (.Call (.Attribute o m apos) (e :: es) [] pos) X.env = (do
      let ov ← eval o X.env
      standAt apos.atName
      let (f, first) ← holding [ov] (getMethod ov m pl)
      callWith pos f first (backTo pos (starEach (e :: es) X.env)) (backToKw pos (keywordEach [] X.env))) := by rfl) :
    Sd X W (.Call (.Attribute o m apos) (e :: es) [] pos) (mMeth C m fm mo ms) := by
  obtain ⟨fd, kp, G, b0, _⟩ := O
  have h := sd_meth (pl := pl) (apos := apos) (pos := pos) (dfs := []) (dvs := []) (ds := []) c hm G (hr.mono hk) hG b0 .nil (fun _ _ => .nil) tk ho ha (fun ρ s ds s' q => by simpa using hl ρ s ds s' q) hst hpl ht
  simpa using h
theorem sd_methO0 {pl : Sem Bool} (c : Cls X.K (He.ga X.K C)) (hm : Meth X.K (He.ga X.K C) m f) (O : OkF X.prog X.w X.K X.mg X.base j f ps dvs fm) (hr : Room k X.A) (hk : j ≤ k) (hG : X.A.guards = some []) (tk : Takes X W) (ho : Sd X W o mo)
    (hl : 1 = ps.length)
    (ht : eval (.Call (.Attribute o m apos) [] [] pos) X.env = (do
      let ov ← eval o X.env
      standAt apos.atName
      let (f, first) ← holding [ov] (getMethod ov m pl)
      callWith pos f first (backTo pos (starEach [] X.env)) (backToKw pos (keywordEach [] X.env))) := by rfl) :
    Sd X W (.Call (.Attribute o m apos) [] [] pos) (mMeth C m fm mo mNil) := by
  obtain ⟨fd, kp, G, b0, _⟩ := O
  have h := sd_meth0 (pl := pl) (apos := apos) (pos := pos) (dfs := []) (dvs := []) (ds := []) c hm G (hr.mono hk) hG b0 .nil (fun _ _ => .nil) tk ho (by simpa using hl) ht
  simpa using h
/-- C(e, ..), all parameters of __init__ written -/
theorem sd_makeO (M : Mk X.K (He.ga X.K C) f) (O : OkF X.prog X.w X.K X.mg X.base j f ps dvs fm) (hr : Room k X.A) (hk : j + 1 ≤ k) (hG : X.A.guards = some []) (hm : X.mg x = some (.ref (He.ga X.K C))) (tk : Takes X W) (ha : SdA X W (e :: es) ms)
    (hl : ∀ ρ s ds s', ms ρ s = some (.ok ds s') → ds.length + 1 = ps.length) (hg : Gl X x := by rfl) (hdb : (x == ("__debug__" : Str)) = false := by decide)
    (he : starEach (e :: es) X.env = (false, eval e X.env) :: starEach es X.env := by rfl) (hpl : (backTo pos (starEach es X.env)).any (·.1) = false := by rfl) :
    Sd X W (.Call (.Name x p) (e :: es) [] pos) (mMake C fm ms) := by
  obtain ⟨fd, kp, G, b0, _⟩ := O
  have h := sd_make (p := p) (pos := pos) (dfs := []) (dvs := []) (ds := []) M G (hr.mono hk) hG hm b0 .nil (fun _ _ => .nil) tk ha (fun ρ s ds s' q => by simpa using hl ρ s ds s' q) hg hdb he hpl
  simpa using h
theorem sd_lenOO (hs : PySem.W.findIn X.K (.ref (He.ga X.K C)) "__len__" = some (some (.ref f))) (hf : PySem.W.isFn X.K (.ref f) = true) (O : OkF X.prog X.w X.K X.mg X.base j f ps dvs fm) (hr : Room k X.A) (hk : j + 1 ≤ k) (hG : X.A.guards = some []) (tk : Takes X W) (ho : Sd X W o mo)
    (hm : X.mg "len" = none) (hl : ps.length = 1) (hg : Gl X "len" := by rfl) (he : starEach [o] X.env = (false, eval o X.env) :: starEach [] X.env := by rfl) (hpl : (backTo pos (starEach [] X.env)).any (·.1) = false := by rfl) :
    Sd X W (.Call (.Name "len" p) [o] [] pos) (mLenO C fm mo) := by
  obtain ⟨fd, kp, G, b0, _⟩ := O
  exact sd_lenO hs hf G (hr.mono hk) hG b0 tk ho hm hl hg he hpl
theorem sd_eqOO {ok : Kd → Bool} (hok : EqOk X C ok) (hs : PySem.W.findIn X.K (.ref (He.ga X.K C)) "__eq__" = some (some (.ref f))) (hf : PySem.W.isFn X.K (.ref f) = true) (O : OkF X.prog X.w X.K X.mg X.base j f ps dvs fm) (hr : Room k X.A) (hk : j ≤ k) (hG : X.A.guards = some []) (tk : Takes X W) (hl : ps.length = 2)
    (ha : Sd X W a ma) (hb' : Sd X W b mb) (hm : behindInMarks .Eq b = false := by first | exact nomark _ | rfl) : Sd X W (.Compare a [.Eq] [b] pos) (mEqO C ok fm ma mb) := by
  obtain ⟨fd, kp, G, b0, _⟩ := O
  exact sd_eqO hok hs hf G (hr.mono hk) hG b0 tk hl ha hb' hm
theorem sd_neOO {ok : Kd → Bool} (hok : EqOk X C ok) (hs1 : PySem.W.findIn X.K (.ref (He.ga X.K C)) "__ne__" = some (some (.builtin "object.__ne__"))) (hob : PySem.W.mroIn X.K (He.ga X.K C) (.type "object") = some true) (hs : PySem.W.findIn X.K (.ref (He.ga X.K C)) "__eq__" = some (some (.ref f))) (hf : PySem.W.isFn X.K (.ref f) = true) (O : OkF X.prog X.w X.K X.mg X.base j f ps dvs fm) (hr : Room k X.A) (hk : j + 1 ≤ k) (hG : X.A.guards = some []) (tk : Takes X W) (hl : ps.length = 2)
    (ha : Sd X W a ma) (hb' : Sd X W b mb) (hm : behindInMarks .NotEq b = false := by first | exact nomark _ | rfl) : Sd X W (.Compare a [.NotEq] [b] pos) (mNeO C ok fm ma mb) := by
  obtain ⟨fd, kp, G, b0, _⟩ := O
  exact sd_neO hok hs1 hob hs hf G (hr.mono hk) hG b0 tk hl ha hb' hm
end
end MP

set_option Elab.async false
set_option linter.all false
set_option maxRecDepth 100000
set_option maxHeartbeats 4000000
/-! MPZ: a law's end: its reading answers True at every script -/
namespace MP
open PySem PySem.Spec PyProof.Rows L2
theorem rel_empty {K : PySem.W.Frag} (H : Hp) : Rel K [] H H [] := ⟨Same.refl H, rfl, .nil, fun n o a h _ => by simp at h⟩
section
variable {P : Program} {w : World} {K : PySem.W.Frag} {mg mb : Str → Option Value} {k : Nat} {fa a : Addr} {fd : FuncData} {x : Str} {fm : FM} {s₁ : Shared} {vs : List Value} {ns : List Int}
/-- the law's def runs from a heap in which at most the script is tracked -/
theorem end_from {H : Hp} (KX : K.In s₁.heap) (hns : s₁.heap.Ns mainGlobals mg) (hb : s₁.heap.Ns builtinsNs mb) (hbb : ∀ x : Str, x ≠ "__name__" → mb x = bootBuiltins x) (hlim : s₁.heap.NoLimit) (hg : s₁.gens = #[])
    (ha : s₁.heap.get? a = some { cls := .type "list", data := .seq vs.toArray }) (hr : Room k callerA)
    (F : ∀ base : Heap, K.In base → base.Ns mainGlobals mg → FnG P w K mg base k fa fd [x] (spM K 1 fm)) (hbind : ∀ (s : Shared) (u : Value), BindsTo s fd ⟨[u], []⟩ [(x, u)]) {st : Sto} (hfm : fm [.scr ns] [] = some (.ok (.bl true) st))
    (hO : Only H) (hS : SqL K H a (ns.map V.int)) (hok : HOk P w H s₁.heap) (hA : ∀ b, H b ≠ none → b = a) (hK : H a ≠ none → K.lookup a = none) :
    codeAny (model P w) callerA (.call (.ref fa) ⟨[.ref a], []⟩) (fun r s' => r = .ok (.ret (.bool true)) ∧ OldK s₁.heap s'.heap ∧ s'.os = s₁.os ∧ AllBare s'.gens) s₁ := by
  have free : ∀ {b : Addr} {o : Obj}, s₁.heap.get? b = some o → (b = a → False) → H b = none := fun {b o} _ hne => by
    cases q : H b with
    | none => rfl
    | some u => exact (hne (hA b (by rw [q]; simp))).elim
  have nsK : ∀ {b : Addr} {m : Str → Option Value}, s₁.heap.Ns b m → (hidT s₁.heap H).Ns b m := fun {b m} ⟨o, es, ep, e, d, r⟩ => ⟨o, es, ep, hidT_get e (free e fun z => by
    subst z
    rw [ha] at e
    cases e
    exact absurd (show Data.seq vs.toArray _ = Data.dict es ep from d) (by intro h; cases h)), d, r⟩
  have hKb : K.In (hidT s₁.heap H) := fun b o e => by
    by_cases hz : H b = none
    · exact hidT_get (KX b o e) hz
    · have e1 := hA b hz
      subst e1
      rw [hK hz] at e
      cases e
  have hM : Mod K mg (hidT s₁.heap H) := ⟨hKb, nsK hns, ⟨mb, nsK hb, hbb⟩, let ⟨mc, h1, h2⟩ := hlim; ⟨mc, nsK h1, h2⟩⟩
  have e0 : Env0 P w K mg (hidT s₁.heap H) callerA [] s₁ H := ⟨rfl, hM, fun b o e => of_hidT e, Nat.le_of_eq (hidT_size _ _), trivial, fun b hb => absurd (show b ∈ ([] : List Addr) from hb) (by simp), hok, .of_eq hg⟩
  have hsp : spM K 1 fm [.ref a] H (fun v _ => v = .bl true) (fun _ _ _ => False) := ⟨rfl, [.scr ns], [], H, [], .cons (.scr hS) .nil, rel_empty H, by
    rw [hfm]
    intro b H' Z' ι' _ _ rb
    cases rb
    rfl⟩
  refine codeAny_mono ((F _ hKb (nsK hns)).run callerA [] s₁ H ⟨[.ref a], []⟩ [.ref a] [.ref a] _ _ hr rfl e0 (hbind s₁ (.ref a)) (.cons rfl .nil) hsp) fun r s' h => ?_
  match r, h with
  | .error e, ⟨_, _, _, _, _, _, _, _, _, _, _, _, z⟩ => exact z.elim
  | .ok (.ret u), ⟨v, H', os, bare, un, hok', r', q⟩ =>
    subst q
    obtain rfl : u = Value.bool true := r'
    refine ⟨rfl, OldK.of_keep fun b o e => ?_, os, bare⟩
    rcases hO b with z | ⟨ob, xs, z⟩
    · exact un.keep b o e z (by intro q; exact absurd (show b ∈ ([] : List Addr) from q) (by simp)) (by simp)
    · obtain ⟨e1, _⟩ := hok b _ z
      obtain ⟨e2, _⟩ := hok' b _ (un.frzs b ob _ z)
      rw [e] at e1
      cases e1
      exact e2
theorem end_call (KX : K.In s₁.heap) (hns : s₁.heap.Ns mainGlobals mg) (hb : s₁.heap.Ns builtinsNs mb) (hbb : ∀ x : Str, x ≠ "__name__" → mb x = bootBuiltins x) (hlim : s₁.heap.NoLimit) (hg : s₁.gens = #[])
    (ha : s₁.heap.get? a = some { cls := .type "list", data := .seq vs.toArray }) (hi : IntsAre vs ns) (hl : ns.length ≤ sizeLine) (hr : Room k callerA)
    (F : ∀ base : Heap, K.In base → base.Ns mainGlobals mg → FnG P w K mg base k fa fd [x] (spM K 1 fm)) (hbind : ∀ (s : Shared) (u : Value), BindsTo s fd ⟨[u], []⟩ [(x, u)]) {st : Sto} (hfm : fm [.scr ns] [] = some (.ok (.bl true) st)) :
    codeAny (model P w) callerA (.call (.ref fa) ⟨[.ref a], []⟩) (fun r s' => r = .ok (.ret (.bool true)) ∧ OldK s₁.heap s'.heap ∧ s'.os = s₁.os ∧ AllBare s'.gens) s₁ := by
  have rv := vals_ints hi
  have lenV := hi.length
  cases hk : K.lookup a with
  | some o =>
    have e := KX a o hk
    rw [ha] at e
    cases e
    exact end_from (H := fun _ => none) KX hns hb hbb hlim hg ha hr F hbind hfm (fun _ => .inl rfl) (.inr ⟨_, vs.toArray, _, hk, rfl, rfl, rfl, by rw [List.size_toArray, lenV]; exact hl, by simpa using rv⟩) (fun b u z => nomatch (show (none : Option HO) = some u from z)) (fun b z => absurd rfl z) fun z => absurd rfl z
  | none =>
    have only : ∀ b, (if b = a then some (HO.frz { cls := .type "list", data := .seq vs.toArray } (.lst (ns.map V.int))) else none) ≠ none → b = a := fun b z => by
      by_cases hb : b = a
      · exact hb
      · exact absurd (if_neg hb) z
    refine end_from (H := fun b => if b = a then some (.frz { cls := .type "list", data := .seq vs.toArray } (.lst (ns.map V.int))) else none) KX hns hb hbb hlim hg ha hr F hbind hfm (fun b => ?_) (.inl (.inr ⟨{ cls := .type "list", data := .seq vs.toArray }, if_pos rfl⟩)) (fun b u z => ?_) only fun _ => hk
    · by_cases hb : b = a
      · exact .inr ⟨_, _, if_pos hb⟩
      · exact .inl (if_neg hb)
    · have hb : b = a := only b (fun q => nomatch q.symm.trans z)
      have z' := (if_pos hb).symm.trans z
      cases z'
      subst hb
      exact ⟨ha, by rw [List.length_map]; exact hl, vs, _, rv, ha⟩
end
/-- a law whose reading answers True at every script -/
theorem walk_G {l : PySem.W.OpenLaw} {n k : Nat} {q : Program} {loose : List Str} {XP : (Str → Option Value) → Heap → Prop} {YP : World → Heap → Prop} {d : DefRec} {x : Str} {fm : FM}
    (hn : l.most = some n) (hn2 : n ≤ sizeLine) (hdf : d.params.defaults = []) (hr : Room k callerA)
    (hfm : ∀ ns : List Int, ns.length ≤ n → ∃ st, fm [.scr ns] [] = some (.ok (.bl true) st))
    (F : ∀ (w : World) (mg : Str → Option Value) (fa : Addr) (h : Heap), YP w h → h.Ns mainGlobals mg → mg d.name = some (.ref fa) →
      ∃ (K : PySem.W.Frag) (fd : FuncData), K.In h ∧ (∀ (s : Shared) (u : Value), BindsTo s fd ⟨[u], []⟩ [(x, u)]) ∧
        ∀ base : Heap, K.In base → base.Ns mainGlobals mg → FnG l.prog w K mg base k fa fd [x] (spM K 1 fm)) :
    PySem.W.WalkO q loose XP YP l.row.toRowW d [] (fun f vs => PySem.call f vs) := by
  refine Att.attach_call hn hdf fun w s₀ s₁ mg mb fa o pm cd doc a vs ns G Y ho hd hcd hmg hobj hints hlen hg => ?_
  obtain ⟨K, fd, KX, hb, hF⟩ := F w mg fa _ Y G.T.g hmg
  obtain ⟨st, hst⟩ := hfm ns hlen
  exact end_call KX G.T.g G.T.b G.T.builtins G.T.nolimit hg hobj hints (Nat.le_trans hlen hn2) hr hF hb hst
end MP

set_option Elab.async false
set_option linter.all false
set_option maxRecDepth 100000
set_option maxHeartbeats 4000000
/-! MPF: the head's facts by numbers; tables, empty defaults, own classes as Bools -/
namespace MP
open PySem L2
theorem _root_.L2.Room.units1 {k : Nat} {A : Around} (r : Room k A) : A.units + 1 < cLine := by have := r.un; omega
theorem _root_.L2.Room.units61 {k : Nat} {A : Around} (r : Room k A) : A.units + 61 < cLine := by have := r.un; omega
theorem gmName_sto {i : Nat} : ∀ d ρ st ρ' st', gmName i d ρ st = some (.ok ρ' st') → st' = st := fun d ρ st ρ' st' h => by cases h; rfl
theorem sd_globS {X : Cx} {W : WX} {x z : Str} {pos : Pos} (hm : ∃ t, X.mg x = some (.str z t)) (hg : Gl X x := by rfl) (hd : (x == ("__debug__" : Str)) = false := by decide) : Sd X W (.Name x pos) (mC (.str z)) := by
  obtain ⟨t, h⟩ := hm
  exact sd_glob (v := .str z) h ⟨t, rfl⟩ (fun _ _ => .str z) hg hd
/-! ### the facts -/
def SY (fa : List He.Fa) (fn : List He.DefD) (ts : List He.Tab) (ex : PySem.W.Frag → Bool) (w : World) (K : PySem.W.Frag) (mg : Str → Option Value) : Prop := ∃ h : Heap, K.In h ∧ h.Ns mainGlobals mg ∧ He.SaysX fa fn ts [] ex w h K
section
variable {fa : List He.Fa} {fn : List He.DefD} {ts : List He.Tab} {ex : PySem.W.Frag → Bool} {w : World} {K : PySem.W.Frag} {mg : Str → Option Value}
theorem SY.fact (S : SY fa fn ts ex w K mg) (i : Nat) {f : He.Fa} (h : fa[i]? = some f) : f.ok K = true := by
  obtain ⟨_, _, _, c⟩ := S
  exact c.t.d.facts (List.mem_of_getElem? h)
theorem SY.glo (S : SY fa fn ts ex w K mg) (i : Nat) {x : Str} (h : fa[i]? = some (.glo x) := by rfl) : mg x = some (.ref (He.ga K x)) := by
  have c := S.fact i h
  obtain ⟨_, X, G, _⟩ := S
  exact He.glo_ok X G c
theorem SY.free (S : SY fa fn ts ex w K mg) (i : Nat) {x : Str} (h : fa[i]? = some (.free x) := by rfl) : mg x = none := by
  have c := S.fact i h
  obtain ⟨_, X, G, _⟩ := S
  exact He.free_ok X G c
theorem SY.str (S : SY fa fn ts ex w K mg) (i : Nat) {x z : Str} (h : fa[i]? = some (.str x z) := by rfl) : ∃ t, mg x = some (.str z t) := by
  have c := S.fact i h
  obtain ⟨_, X, G, _⟩ := S
  exact He.str_ok X G c
theorem SY.cls (S : SY fa fn ts ex w K mg) (i : Nat) {x : Str} (h : fa[i]? = some (.cls x) := by rfl) : Cls K (He.ga K x) := He.cls_ok (S.fact i h)
theorem SY.noat (S : SY fa fn ts ex w K mg) (i : Nat) {x f : Str} (h : fa[i]? = some (.noat x f) := by rfl) : NoAttr K (He.ga K x) f := He.noat_ok (S.fact i h)
theorem SY.meth (S : SY fa fn ts ex w K mg) (i : Nat) {x m : Str} (h : fa[i]? = some (.meth x m) := by rfl) : Meth K (He.ga K x) m (He.ma K (He.ga K x) m) := He.meth_ok (S.fact i h)
theorem SY.mkr (S : SY fa fn ts ex w K mg) (i : Nat) {x : Str} (h : fa[i]? = some (.mkr x) := by rfl) : Mk K (He.ga K x) (He.ma K (He.ga K x) "__init__") := He.mkr_ok (S.fact i h)
theorem SY.def_ (S : SY fa fn ts ex w K mg) (i : Nat) {d : He.DefD} (h : fn[i]? = some d := by rfl) : ∃ fd, FunD K d.name d.qual d.params d.body d.scope (d.dvs K) (d.kws K) (He.fAd K d.at_) fd := by
  obtain ⟨_, _, _, c⟩ := S
  exact c.t.d.defs (List.mem_of_getElem? h)
theorem SY.tab (S : SY fa fn ts ex w K mg) (i : Nat) {t : He.Tab} (h : ts[i]? = some t := by rfl) : ∃ es n, KDict K w (t.1 K) es n := by
  obtain ⟨_, _, _, c⟩ := S
  exact c.t.tab i h
theorem SY.more (S : SY fa fn ts ex w K mg) : ex K = true := by
  obtain ⟨_, _, _, c⟩ := S
  exact c.more
end
/-! ### a written table of texts -/
def entP (e : DictEntry) : Option (Str × Str) := match e.key, e.val with
  | .str k _, .str v _ => some (k, v)
  | _, _ => none
def tabB (K : PySem.W.Frag) (d : Addr) (T : List (Str × Str)) : Bool := match K.lookup d with
  | some ⟨_, _, .dict es _, _⟩ => decide (es.toList.map entP = T.map some)
  | _ => false
theorem tab_find (z : Str) : ∀ {es : List DictEntry} {T : List (Str × Str)}, es.map entP = T.map some → (es.any (·.refKey) = false) ∧ match T.lookup z with
    | none => es.find? (·.key.isStr z) = none
    | some v => ∃ e t, es.find? (·.key.isStr z) = some e ∧ e.val = .str v t
  | [], [], _ => ⟨rfl, rfl⟩
  | [], _ :: _, h => by cases h
  | _ :: _, [], h => by cases h
  | e :: es, (k, v) :: T, h => by
    rw [List.map_cons, List.map_cons] at h
    injection h with h1 h2
    obtain ⟨i1, i2⟩ := tab_find z h2
    unfold entP at h1
    split at h1
    · rename_i k' t' v' t2 hk hv
      cases h1
      have hs : e.key.isStr z = (z == k) := by
        rw [hk]
        show (k == z) = (z == k)
        cases q : z == k with
        | true => rw [beq_iff_eq.mp q]; simp
        | false =>
          cases q2 : k == z with
          | true => rw [beq_iff_eq.mp q2] at q; simp at q
          | false => rfl
      refine ⟨?_, ?_⟩
      · rw [List.any_cons, i1, Bool.or_false]
        unfold DictEntry.refKey
        rw [hk]
      · rw [List.lookup_cons, List.find?_cons, hs]
        cases hz : z == k with
        | true => exact ⟨e, t2, rfl, hv⟩
        | false => exact i2
    · cases h1
theorem tabK_of {K : PySem.W.Frag} {w : World} {d : Addr} {T : List (Str × Str)} (h : tabB K d T = true) (hd : ∃ es n, KDict K w d es n) : TabK K w d T := by
  refine ⟨hd, fun z => ?_⟩
  unfold tabB at h
  split at h
  · rename_i oc od es n sl hl
    obtain ⟨h1, h2⟩ := tab_find z (of_decide_eq_true h)
    cases e : T.lookup z with
    | none =>
      rw [e] at h2
      unfold PySem.W.nsIn
      rw [hl]
      dsimp only
      rw [h2]
      simp [h1]
    | some v =>
      rw [e] at h2
      obtain ⟨en, t, h3, h4⟩ := h2
      refine ⟨t, ?_⟩
      unfold PySem.W.nsIn
      rw [hl]
      dsimp only
      rw [h3]
      dsimp only
      rw [h4]
  · cases h
/-! ### an empty tuple of the text -/
def etupB (K : PySem.W.Frag) (a : Addr) : Bool := match K.lookup a with
  | some ⟨.type c, _, .seq its _, _⟩ => decide (c = "tuple") && its.isEmpty
  | _ => false
theorem etup_rp {K : PySem.W.Frag} {a : Addr} (h : etupB K a = true) (Z : Hp) (ι : List Addr) : RpL K Z ι [.ref a] [.tup []] := by
  unfold etupB at h
  split at h
  · rename_i c od its n sl hl
    rw [Bool.and_eq_true, decide_eq_true_eq] at h
    obtain ⟨rfl, h2⟩ := h
    have e : its = #[] := Array.isEmpty_iff.mp h2
    subst e
    exact .cons (.tup (.inr ⟨_, #[], n, hl, rfl, rfl, Nat.zero_le _, .nil⟩) .nil) .nil
  · cases h
/-! ### an own class: isinstance, ==, != -/
def ownB (K : PySem.W.Frag) (C : Str) : Bool := decide (PySem.W.findIn K (.ref (He.ga K C)) "__class__" = some (some (.builtin "object.__class__"))) && (decide (PySem.W.specialIn K (.builtin "object.__class__") "__get__" = some (some (.builtin "getset_descriptor.__get__"))) &&
  (decide (PySem.W.takesIn K (.builtin "object.__class__") = some true) && (decide (PySem.W.mroIn K (He.ga K C) (.type "object") = some true) && (bNames.all (fun t => decide (PySem.W.kitAny K (.type t) [.ref (He.ga K C)] = some false)) &&
  (bNames.all (fun t => PySem.W.notFirst K (He.ga K C) (.type t)) && decide (PySem.W.findIn K (.ref (He.ga K C)) "__ne__" = some (some (.builtin "object.__ne__"))))))))
structure OwnC (K : PySem.W.Frag) (C : Str) : Prop where
  ok : OwnOk K C
  kit : ∀ t ∈ bNames, PySem.W.kitAny K (.type t) [.ref (He.ga K C)] = some false
  nf : ∀ t ∈ bNames, PySem.W.notFirst K (He.ga K C) (.type t) = true
  ne : PySem.W.findIn K (.ref (He.ga K C)) "__ne__" = some (some (.builtin "object.__ne__"))
theorem ownC_of {K : PySem.W.Frag} {C : Str} (h : ownB K C = true) (c : Cls K (He.ga K C)) : OwnC K C := by
  unfold ownB at h
  simp only [Bool.and_eq_true, decide_eq_true_eq, List.all_eq_true] at h
  obtain ⟨h1, h2, h3, h4, h5, h6, h7⟩ := h
  exact ⟨⟨c, h1, h2, h3, h4⟩, h5, h6, h7⟩
def isC (C : Str) : Kd → Option Bool
  | .t _ => some false
  | .o D => if D = C then some true else none
theorem isiS_C {K : PySem.W.Frag} {C : Str} (h : OwnC K C) : IsiS K [.ref (He.ga K C)] (isC C) := fun k b e hk => by
  cases k with
  | t t => cases e; exact ⟨h.kit t (hk t rfl), fun _ z => nomatch z⟩
  | o D =>
    unfold isC at e
    dsimp only at e
    split at e
    · rename_i hD
      cases e
      subst hD
      refine ⟨?_, fun C' z => by cases z; exact h.ok⟩
      show PySem.W.kitAny K (.ref (He.ga K D)) [.ref (He.ga K D)] = some true
      unfold PySem.W.kitAny PySem.W.kitOne
      simp
    · cases e
def okE (C : Str) : Kd → Bool
  | .t _ => true
  | .o D => decide (D = C)
theorem eqOk_C {X : Cx} {C : Str} (h : OwnC X.K C) : EqOk X C (okE C) := fun k e hk => by
  cases k with
  | t t => exact ⟨h.nf t (hk t rfl), fun _ z => nomatch z⟩
  | o D =>
    have hD : D = C := of_decide_eq_true e
    subst hD
    refine ⟨?_, fun C' z => by cases z; exact h.ok⟩
    show PySem.W.notFirst X.K (He.ga X.K D) (.ref (He.ga X.K D)) = true
    unfold PySem.W.notFirst
    simp
end MP

set_option Elab.async false
set_option linter.all false
set_option maxRecDepth 100000
set_option maxHeartbeats 4000000
/-! MPG: more rules: tests of tables, halted defs with defaults -/
namespace MP
open PySem L2
/-! == of two texts -/
def fEqT (_ : Sto) (x y : D) : Option D := match x, y with
  | .str a, .str b => some (.bl (decide (a = b)))
  | _, _ => none
theorem os_eqT {K : PySem.W.Frag} : OpS K fEqT rEq := fun st x y d v u H Z ι Q hf r hx hy k => by
  cases hx with
  | str a => cases hy with
    | str b =>
      cases hf
      refine ⟨rfl, ?_⟩
      have e : decide (V.str a = V.str b) = decide (a = b) := by rw [Bool.eq_iff_iff]; simp
      rw [e]
      exact k _ H Z (Grow.refl _ _ _) r (.bl _)
    | _ => cases hf
  | _ => cases hf
section
variable {X : Cx} {W : WX} {e o : Expr} {p pos : Pos} {me : ME} {d : Addr} {T : List (Str × Str)}
theorem st_tabIn (h : TabK X.K X.w d T) (he : Sd X W e me) (ho : PE X o (tC (.ref d))) (hm : behindInMarks .In o = false := by first | exact nomark _ | rfl) : SdT X W (.Compare e [.In] [o] pos) (mTst (mTabIn T me)) := by
  obtain ⟨es, n, D⟩ := h.1
  refine pt_imp (pt_cmpR (op_in_kd D) he ho hm) fun σ H Q q => ?_
  obtain ⟨ρ, st, Z, ι, en, r0, p⟩ := rdT_tst q
  refine rdG.mono (kont en r0 p) fun v H1 ⟨st1, Z1, ι1, x, g1, e1, r1, rx, p1⟩ => ?_
  cases rx with
  | str z =>
    obtain ⟨r, h1, h2⟩ := tab_ns h z
    exact ⟨z, r, rfl, rfl, h1, by rw [h2]; exact p1 _ _ _ _ (Grow.refl _ _ _) r1 (.bl _)⟩
  | _ => exact p1.elim
theorem st_tabNotIn (h : TabK X.K X.w d T) (he : Sd X W e me) (ho : PE X o (tC (.ref d))) (hm : behindInMarks .NotIn o = false := by first | exact nomark _ | rfl) : SdT X W (.Compare e [.NotIn] [o] pos) (mTst (mTabNotIn T me)) := by
  obtain ⟨es, n, D⟩ := h.1
  refine pt_imp (pt_cmpR (op_notIn_kd D) he ho hm) fun σ H Q q => ?_
  obtain ⟨ρ, st, Z, ι, en, r0, p⟩ := rdT_tst q
  refine rdG.mono (kont en r0 p) fun v H1 ⟨st1, Z1, ι1, x, g1, e1, r1, rx, p1⟩ => ?_
  cases rx with
  | str z =>
    obtain ⟨r, h1, h2⟩ := tab_ns h z
    exact ⟨z, r, rfl, rfl, h1, by rw [h2]; exact p1 _ _ _ _ (Grow.refl _ _ _) r1 (.bl _)⟩
  | _ => exact p1.elim
end
section
variable {P : Program} {w : World} {K : PySem.W.Frag} {mg : Str → Option Value} {base : Heap} {x qual : Str} {params : Arguments} {body : List Stmt} {scope : Scope} {kws : List (Str × V)} {f : Addr} {fd : FuncData} {ps : List Str} {k : Nat}
theorem okF1_halt {dvs : List V} {v : V} {fm : FM} (h : ∀ ds s, fm ds s = none) (hd : dvs = [v]) (F : FunD K x qual params body scope dvs kws f fd) (n : Nat) (hn : n + 1 = ps.length)
    (h0 : ∀ (T : Addr) (kV doc pm : Value) (an : Option Addr) (cdv ct : Value) (us its : List Value), us.length = n + 1 → its.length = 1 →
      ∃ k, bindArgs (PySem.W.fnOf x qual params body scope (.ref T) kV doc pm an cdv ct) ⟨us, []⟩ = seqItems? (.ref T) >>= k ∧ k (some its.toArray) = pure (ps.zip (us ++ its.drop 1)))
    (h1 : ∀ (T : Addr) (kV doc pm : Value) (an : Option Addr) (cdv ct : Value) (us its : List Value), us.length = n → its.length = 1 →
      ∃ k, bindArgs (PySem.W.fnOf x qual params body scope (.ref T) kV doc pm an cdv ct) ⟨us, []⟩ = seqItems? (.ref T) >>= k ∧ k (some its.toArray) = pure (ps.zip (us ++ its.drop 0))) :
    OkF P w K mg base k f ps [v] fm := by
  subst hd
  obtain ⟨ds0, hv0, b0⟩ := F.binds1 (n + 1) 1 (List.cons_ne_nil _ _) (by simpa using hn) h0
  obtain ⟨ds1, hv1, b1⟩ := F.binds1 n 0 (List.cons_ne_nil _ _) (by simpa using hn) h1
  have e : ds0 = [] := by cases hv0; rfl
  subst e
  exact okF_halt h ⟨fd, F.kp, b0, ds1, hv1, b1⟩
end
end MP


set_option Elab.async false
set_option linter.all false
set_option maxRecDepth 100000
set_option maxHeartbeats 4000000
namespace MP
open PySem L2
/-! the text of law_k01_parts_told -/
def topS (i : Nat) : Stmt := PySem.Challenge.pw_heldback_k01_parts_told.main.body.getD i (.Pass ⟨0, 0, 0, 0⟩)
def clsB : Stmt → List Stmt
  | .ClassDef (body := b) .. => b
  | _ => []
def clsS (i j : Nat) : Stmt := (clsB (topS i)).getD j (.Pass ⟨0, 0, 0, 0⟩)
abbrev s_l_start : Stmt := topS 41
abbrev s_p_is_list : Stmt := topS 24
abbrev s_p_is_name : Stmt := topS 22
abbrev s_p_is_integer : Stmt := topS 23
abbrev s_p_is_held : Stmt := topS 25
abbrev s_p_fits : Stmt := topS 26
abbrev s_p_is_step : Stmt := topS 27
abbrev s_p_inner_lists : Stmt := topS 28
abbrev s_p_first_bad : Stmt := topS 29
abbrev s_p_frozen_step : Stmt := topS 31
abbrev s_p_frozen : Stmt := topS 30
abbrev s_c_Part_init : Stmt := clsS 38 0
abbrev s_l_draw : Stmt := topS 40
abbrev s_l_pick : Stmt := topS 42
abbrev s_l_name : Stmt := topS 45
abbrev s_l_names : Stmt := topS 46
abbrev s_l_wide_pool : Stmt := topS 64
abbrev s_l_listed : Stmt := topS 60
abbrev s_l_spoil : Stmt := topS 61
abbrev s_l_same : Stmt := topS 44
abbrev s_l_number : Stmt := topS 47
abbrev s_l_plain : Stmt := topS 49
abbrev s_l_mixed : Stmt := topS 43
abbrev s_l_held : Stmt := topS 48
abbrev s_l_plains : Stmt := topS 50
abbrev s_l_times : Stmt := topS 54
abbrev s_l_steps : Stmt := topS 51
abbrev s_l_test : Stmt := topS 52
abbrev s_l_choice : Stmt := topS 53
abbrev s_l_step : Stmt := topS 55
abbrev s_l_part : Stmt := topS 56
abbrev s_l_shape : Stmt := topS 63
abbrev s_l_lists : Stmt := topS 57
abbrev s_l_all : Stmt := topS 58
abbrev s_l_cells : Stmt := topS 59
abbrev s_l_words : Stmt := topS 62
abbrev s_c_Part_steps : Stmt := clsS 38 1
abbrev s_p_all_steps : Stmt := topS 32
abbrev s_p_names_at : Stmt := topS 33
abbrev s_c_Part_cells : Stmt := clsS 38 2
abbrev s_c_Part_words : Stmt := clsS 38 3
abbrev s_c_Part_faults : Stmt := clsS 38 4
abbrev s_c_Part_len : Stmt := clsS 38 8
abbrev s_l_told : Stmt := topS 65
abbrev s_c_Part_eq : Stmt := clsS 38 9
abbrev s_law_ : Stmt := topS 66
theorem sc_l_start : FnScope ["_law_script"] ["_law_script"] (defScope s_l_start) := ⟨rfl, rfl, rfl, by decide +kernel, rfl, by decide +kernel, by decide +kernel⟩
theorem sc_p_is_list : FnScope ["thing"] ["thing"] (defScope s_p_is_list) := ⟨rfl, rfl, rfl, by decide +kernel, rfl, by decide +kernel, by decide +kernel⟩
theorem sc_p_is_name : FnScope ["thing", "sign"] ["thing"] (defScope s_p_is_name) := ⟨rfl, rfl, rfl, by decide +kernel, rfl, by decide +kernel, by decide +kernel⟩
theorem sc_p_is_integer : FnScope ["thing"] ["thing"] (defScope s_p_is_integer) := ⟨rfl, rfl, rfl, by decide +kernel, rfl, by decide +kernel, by decide +kernel⟩
theorem sc_p_is_held : FnScope ["thing", "cell"] ["thing"] (defScope s_p_is_held) := ⟨rfl, rfl, rfl, by decide +kernel, rfl, by decide +kernel, by decide +kernel⟩
theorem sc_p_fits : FnScope ["thing", "kind"] ["thing", "kind"] (defScope s_p_fits) := ⟨rfl, rfl, rfl, by decide +kernel, rfl, by decide +kernel, by decide +kernel⟩
theorem sc_p_is_step : FnScope ["thing", "shape", "one", "kind"] ["thing"] (defScope s_p_is_step) := ⟨rfl, rfl, rfl, by decide +kernel, rfl, by decide +kernel, by decide +kernel⟩
theorem sc_p_inner_lists : FnScope ["step", "one", "kind"] ["step"] (defScope s_p_inner_lists) := ⟨rfl, rfl, rfl, by decide +kernel, rfl, by decide +kernel, by decide +kernel⟩
theorem sc_p_first_bad : FnScope ["steps", "path", "at", "thing", "here", "branch", "inner", "found"] ["steps", "path"] (defScope s_p_first_bad) := ⟨rfl, rfl, rfl, by decide +kernel, rfl, by decide +kernel, by decide +kernel⟩
theorem sc_p_frozen_step : FnScope ["step", "parts", "one", "kind"] ["step"] (defScope s_p_frozen_step) := ⟨rfl, rfl, rfl, by decide +kernel, rfl, by decide +kernel, by decide +kernel⟩
theorem sc_p_frozen : FnScope ["steps", "step"] ["steps"] (defScope s_p_frozen) := ⟨rfl, rfl, rfl, by decide +kernel, rfl, by decide +kernel, by decide +kernel⟩
theorem sc_c_Part_init : FnScope ["self", "steps", "path"] ["self", "steps"] (defScope s_c_Part_init) := ⟨rfl, rfl, rfl, by decide +kernel, rfl, by decide +kernel, by decide +kernel⟩
theorem sc_l_draw : FnScope ["_law_stream", "_law_many", "_law_mixed_here", "_law_digit"] ["_law_stream", "_law_many"] (defScope s_l_draw) := ⟨rfl, rfl, rfl, by decide +kernel, rfl, by decide +kernel, by decide +kernel⟩
theorem sc_l_pick : FnScope ["_law_stream", "_law_some"] ["_law_stream", "_law_some"] (defScope s_l_pick) := ⟨rfl, rfl, rfl, by decide +kernel, rfl, by decide +kernel, by decide +kernel⟩
theorem sc_l_name : FnScope ["_law_stream", "_law_size", "_law_k"] ["_law_stream"] (defScope s_l_name) := ⟨rfl, rfl, rfl, by decide +kernel, rfl, by decide +kernel, by decide +kernel⟩
theorem sc_l_names : FnScope ["_law_stream", "_law_many", "_law_names_here", "_law_k", "_law_name_here", "_law_spare", "_law_letter", "_law_one"] ["_law_stream", "_law_many"] (defScope s_l_names) := ⟨rfl, rfl, rfl, by decide +kernel, rfl, by decide +kernel, by decide +kernel⟩
theorem sc_l_wide_pool : FnScope ["_law_stream", "_law_odd", "_law_kind", "_law_many", "_law_pool", "_law_name_here"] ["_law_stream"] (defScope s_l_wide_pool) := ⟨rfl, rfl, rfl, by decide +kernel, rfl, by decide +kernel, by decide +kernel⟩
theorem sc_l_listed : FnScope ["_law_stream", "_law_thing", "_law_inner", "_law_one"] ["_law_stream", "_law_thing"] (defScope s_l_listed) := ⟨rfl, rfl, rfl, by decide +kernel, rfl, by decide +kernel, by decide +kernel⟩
theorem sc_l_spoil : FnScope ["_law_thing", "_law_one"] ["_law_thing"] (defScope s_l_spoil) := ⟨rfl, rfl, rfl, by decide +kernel, rfl, by decide +kernel, by decide +kernel⟩
theorem sc_l_same : FnScope ["_law_found", "_law_due"] ["_law_found", "_law_due"] (defScope s_l_same) := ⟨rfl, rfl, rfl, by decide +kernel, rfl, by decide +kernel, by decide +kernel⟩
theorem sc_l_number : FnScope ["_law_stream", "_law_way"] ["_law_stream"] (defScope s_l_number) := ⟨rfl, rfl, rfl, by decide +kernel, rfl, by decide +kernel, by decide +kernel⟩
theorem sc_l_plain : FnScope ["_law_stream", "_law_pool", "_law_way", "_law_cell"] ["_law_stream", "_law_pool"] (defScope s_l_plain) := ⟨rfl, rfl, rfl, by decide +kernel, rfl, by decide +kernel, by decide +kernel⟩
theorem sc_l_mixed : FnScope ["_law_stream", "_law_some", "_law_left", "_law_k"] ["_law_stream", "_law_some"] (defScope s_l_mixed) := ⟨rfl, rfl, rfl, by decide +kernel, rfl, by decide +kernel, by decide +kernel⟩
theorem sc_l_held : FnScope ["_law_stream", "_law_pool", "_law_cell"] ["_law_stream", "_law_pool"] (defScope s_l_held) := ⟨rfl, rfl, rfl, by decide +kernel, rfl, by decide +kernel, by decide +kernel⟩
theorem sc_l_plains : FnScope ["_law_stream", "_law_pool", "_law_most", "_law_k"] ["_law_stream", "_law_pool", "_law_most"] (defScope s_l_plains) := ⟨rfl, rfl, rfl, by decide +kernel, rfl, by decide +kernel, by decide +kernel⟩
theorem sc_l_times : FnScope ["_law_stream", "_law_pool", "_law_left", "_law_n", "_law_body", "_law_other"] ["_law_stream", "_law_pool", "_law_left"] (defScope s_l_times) := ⟨rfl, rfl, rfl, by decide +kernel, rfl, by decide +kernel, by decide +kernel⟩
theorem sc_l_steps : FnScope ["_law_stream", "_law_pool", "_law_left", "_law_deep", "_law_found", "_law_k"] ["_law_stream", "_law_pool", "_law_left", "_law_deep"] (defScope s_l_steps) := ⟨rfl, rfl, rfl, by decide +kernel, rfl, by decide +kernel, by decide +kernel⟩
theorem sc_l_test : FnScope ["_law_stream", "_law_pool", "_law_left", "_law_deep", "_law_yes", "_law_no", "_law_cell", "_law_n"] ["_law_stream", "_law_pool", "_law_left", "_law_deep"] (defScope s_l_test) := ⟨rfl, rfl, rfl, by decide +kernel, rfl, by decide +kernel, by decide +kernel⟩
theorem sc_l_choice : FnScope ["_law_stream", "_law_pool", "_law_left", "_law_deep", "_law_body", "_law_other", "_law_held_here", "_law_way"] ["_law_stream", "_law_pool", "_law_left", "_law_deep"] (defScope s_l_choice) := ⟨rfl, rfl, rfl, by decide +kernel, rfl, by decide +kernel, by decide +kernel⟩
theorem sc_l_step : FnScope ["_law_stream", "_law_pool", "_law_left", "_law_deep", "_law_way", "_law_body", "_law_other", "_law_held_here", "_law_word"] ["_law_stream", "_law_pool", "_law_left", "_law_deep"] (defScope s_l_step) := ⟨rfl, rfl, rfl, by decide +kernel, rfl, by decide +kernel, by decide +kernel⟩
theorem sc_l_part : FnScope ["_law_stream", "_law_pool", "_law_choices", "_law_tests", "_law_left", "_law_found"] ["_law_stream", "_law_pool", "_law_choices", "_law_tests"] (defScope s_l_part) := ⟨rfl, rfl, rfl, by decide +kernel, rfl, by decide +kernel, by decide +kernel⟩
theorem sc_l_shape : FnScope ["_law_word", "_law_shapes", "_law_more"] ["_law_word"] (defScope s_l_shape) := ⟨rfl, rfl, rfl, by decide +kernel, rfl, by decide +kernel, by decide +kernel⟩
theorem sc_l_lists : FnScope ["_law_step_here", "_law_one", "_law_kind"] ["_law_step_here"] (defScope s_l_lists) := ⟨rfl, rfl, rfl, by decide +kernel, rfl, by decide +kernel, by decide +kernel⟩
theorem sc_l_all : FnScope ["_law_steps_here", "_law_found", "_law_step_here", "_law_inner"] ["_law_steps_here"] (defScope s_l_all) := ⟨rfl, rfl, rfl, by decide +kernel, rfl, by decide +kernel, by decide +kernel⟩
theorem sc_l_cells : FnScope ["_law_steps_here", "_law_found", "_law_step_here", "_law_one", "_law_kind"] ["_law_steps_here"] (defScope s_l_cells) := ⟨rfl, rfl, rfl, by decide +kernel, rfl, by decide +kernel, by decide +kernel⟩
theorem sc_l_words : FnScope ["_law_steps_here", "_law_kinds", "_law_step_here"] ["_law_steps_here", "_law_kinds"] (defScope s_l_words) := ⟨rfl, rfl, rfl, by decide +kernel, rfl, by decide +kernel, by decide +kernel⟩
theorem sc_c_Part_steps : FnScope ["self"] ["self"] (defScope s_c_Part_steps) := ⟨rfl, rfl, rfl, by decide +kernel, rfl, by decide +kernel, by decide +kernel⟩
theorem sc_p_all_steps : FnScope ["steps", "path", "found", "at", "step", "here", "branch", "inner"] ["steps", "path"] (defScope s_p_all_steps) := ⟨rfl, rfl, rfl, by decide +kernel, rfl, by decide +kernel, by decide +kernel⟩
theorem sc_p_names_at : FnScope ["steps", "kinds", "found", "path", "step", "one", "kind"] ["steps", "kinds"] (defScope s_p_names_at) := ⟨rfl, rfl, rfl, by decide +kernel, rfl, by decide +kernel, by decide +kernel⟩
theorem sc_c_Part_cells : FnScope ["self"] ["self"] (defScope s_c_Part_cells) := ⟨rfl, rfl, rfl, by decide +kernel, rfl, by decide +kernel, by decide +kernel⟩
theorem sc_c_Part_words : FnScope ["self", "said", "path", "step"] ["self"] (defScope s_c_Part_words) := ⟨rfl, rfl, rfl, by decide +kernel, rfl, by decide +kernel, by decide +kernel⟩
theorem sc_c_Part_faults : FnScope ["self", "named", "path", "step"] ["self"] (defScope s_c_Part_faults) := ⟨rfl, rfl, rfl, by decide +kernel, rfl, by decide +kernel, by decide +kernel⟩
theorem sc_c_Part_len : FnScope ["self"] ["self"] (defScope s_c_Part_len) := ⟨rfl, rfl, rfl, by decide +kernel, rfl, by decide +kernel, by decide +kernel⟩
theorem sc_l_told : FnScope ["_law_part_here"] ["_law_part_here"] (defScope s_l_told) := ⟨rfl, rfl, rfl, by decide +kernel, rfl, by decide +kernel, by decide +kernel⟩
theorem sc_c_Part_eq : FnScope ["self", "other"] ["self", "other"] (defScope s_c_Part_eq) := ⟨rfl, rfl, rfl, by decide +kernel, rfl, by decide +kernel, by decide +kernel⟩
theorem sc_law_ : FnScope ["_law_script", "_law_stream", "_law_turn", "_law_none", "_law_pool", "_law_given", "_law_part_here", "_law_due", "_law_k", "_law_longer", "_law_same_here", "_law_steps_here", "_law_other", "_law_told_here", "_law_listed_here"] ["_law_script"] (defScope s_law_) := ⟨rfl, rfl, rfl, by decide +kernel, rfl, by decide +kernel, by decide +kernel⟩
end MP

set_option Elab.async false
set_option linter.all false
set_option maxRecDepth 100000
set_option maxHeartbeats 4000000
namespace MP
open PySem L2
/-! the readings of law_k01_parts_told -/
def T_SHAPES : List (Str × Str) := [("say", "w"), ("set", "cn"), ("add", "cn"), ("copy", "ccn"), ("less", "cnll"), ("below", "ccnll"), ("times", "tl"), ("fault", "f"), ("catch", "fhll"), ("last", "ll"), ("back", ""), ("either", "hll"), ("whether", "hlll"), ("each", "hll"), ("hole", "")]
abbrev isC_Part : Kd → Option Bool := isC "Part"
abbrev okE_Part : Kd → Bool := okE "Part"
noncomputable def l_start : FM := fnM 1 (mRet (mLstB (mCons (mCallB gListB (mCons (mVar 0) (mNil))) (mCons (mC (.int 0)) (mCons (mC (.int 0)) (mCons (mC (.int 0)) (mNil)))))))
noncomputable def p_is_list : FM := fnM 1 (mRet (mIsi (fB ["list", "tuple"]) (mVar 0)))
noncomputable def p_is_name : FM := fnM 2 (mRet (mAndV (mIsi (fB ["str"]) (mVar 0)) (mAndV (mChain (cI (fun i j => decide (i ≤ j))) (cI (fun i j => decide (i ≤ j))) (mC (.int 1)) (mCallB (pu gLen) (mCons (mVar 0) (mNil))) (mC (.int 8))) (mCallB (pu gAll) (mCons (mLc (miSeq (mVar 0)) [1] (gmName 1) (mYes) (mOp fIn (mVar 1) (mC (.str "abcdefghijklmnopqrstuvwxyz")))) (mNil))))))
noncomputable def p_is_integer : FM := fnM 1 (mRet (mAndV (mIsi (fB ["int"]) (mVar 0)) (mNotV (mIsi (fB ["bool"]) (mVar 0)))))
noncomputable def p_is_held : FM := fnM 2 (mSeq (mIf (mOr (mNot (mTst (mCall p_is_list (mCons (mVar 0) (mNil))))) (mNot (mTst (mCallB (pu gAll) (mCons (mLc (miSeq (mVar 0)) [1] (gmName 1) (mYes) (mCall p_is_name (mCons (mVar 1) (mNil)))) (mNil)))))) (mRet (mC (.bl false))) (mNext))
      (mRet (mOp fEq (mLenSet (mVar 0)) (mCallB (pu gLen) (mCons (mVar 0) (mNil))))))
noncomputable def p_fits : FM := fnM 2 (mSeq (mIf (mOr (mTst (mOp fEq (mVar 1) (mC (.str "w")))) (mTst (mOp fEq (mVar 1) (mC (.str "c"))))) (mRet (mCall p_is_name (mCons (mVar 0) (mNil)))) (mNext))
      (mSeq (mIf (mTst (mOp fEq (mVar 1) (mC (.str "f")))) (mRet (mAndV (mCall p_is_name (mCons (mVar 0) (mNil))) (mOp fNe (mVar 0) (mC (.str "back"))))) (mNext))
      (mSeq (mIf (mTst (mOp fEq (mVar 1) (mC (.str "n")))) (mRet (mCall p_is_integer (mCons (mVar 0) (mNil)))) (mNext))
      (mSeq (mIf (mTst (mOp fEq (mVar 1) (mC (.str "t")))) (mRet (mAndV (mCall p_is_integer (mCons (mVar 0) (mNil))) (mChain (cI (fun i j => decide (i ≤ j))) (cI (fun i j => decide (i ≤ j))) (mC (.int 0)) (mVar 0) (mC (.int 3))))) (mNext))
      (mSeq (mIf (mTst (mOp fEq (mVar 1) (mC (.str "h")))) (mRet (mCall p_is_held (mCons (mVar 0) (mNil)))) (mNext))
      (mRet (mCall p_is_list (mCons (mVar 0) (mNil)))))))))
noncomputable def p_is_step : FM := fnM 4 (mSeq (mIf (mOr (mNot (mTst (mCall p_is_list (mCons (mVar 0) (mNil))))) (mOr (mTst (mOp fEq (mCallB (pu gLen) (mCons (mVar 0) (mNil))) (mC (.int 0)))) (mOr (mNot (mTst (mIsi (fB ["str"]) (mOp fIx (mVar 0) (mC (.int 0)))))) (mTst (mTabNotIn T_SHAPES (mOp fIx (mVar 0) (mC (.int 0)))))))) (mRet (mC (.bl false))) (mNext))
      (mSeq (mSet 1 (mTab T_SHAPES (mOp fIx (mVar 0) (mC (.int 0)))))
      (mRet (mAndV (mOp fEq (mCallB (pu gLen) (mCons (mVar 0) (mNil))) (mOp fAdd (mCallB (pu gLen) (mCons (mVar 1) (mNil))) (mC (.int 1)))) (mCallB (pu gAll) (mCons (mLc (miZip (mCons (mSl (mVar 0) (moS (mC (.int 1))) (moN)) (mCons (mVar 1) (mNil)))) [2, 3] (gmTup (gmCons (gmName 2) (gmCons (gmName 3) (gmNil)))) (mYes) (mCall p_fits (mCons (mVar 2) (mCons (mVar 3) (mNil))))) (mNil)))))))
noncomputable def p_inner_lists : FM := fnM 3 (mRet (mLc (miZip (mCons (mSl (mVar 0) (moS (mC (.int 1))) (moN)) (mCons (mTab T_SHAPES (mOp fIx (mVar 0) (mC (.int 0)))) (mNil)))) [1, 2] (gmTup (gmCons (gmName 1) (gmCons (gmName 2) (gmNil)))) (mTst (mOp fEq (mVar 2) (mC (.str "l")))) (mVar 1)))
noncomputable def p_first_bad : Nat → FM
  | 0 => fun _ _ => none
  | n + 1 => fnM 8 (mSeq (mFor (miEnum (mCons (mVar 0) (mNil))) (gmTup (gmCons (gmName 2) (gmCons (gmName 3) (gmNil)))) (mSeq (mSet 4 (mTup (mStar (mVar 1) (mCons (mVar 2) (mNil)))))
      (mSeq (mIf (mNot (mTst (mCall p_is_step (mCons (mVar 3) (mNil))))) (mRet (mVar 4)) (mNext))
      (mFor (miEnum (mCons (mCall p_inner_lists (mCons (mVar 3) (mNil))) (mNil))) (gmTup (gmCons (gmName 5) (gmCons (gmName 6) (gmNil)))) (mSeq (mSet 7 (mCall (p_first_bad n) (mCons (mVar 6) (mCons (mTup (mStar (mVar 4) (mCons (mVar 5) (mNil)))) (mNil)))))
      (mIf (mTst (mOp fNotN (mVar 7) (mC .non))) (mRet (mVar 7)) (mNext)))))))
      (mRet (mC .non)))
mutual
noncomputable def p_frozen_step : Nat → FM
  | 0 => fun _ _ => none
  | n + 1 => fnM 4 (mSeq (mSet 1 (mLstB (mNil)))
      (mSeq (mFor (miZip (mCons (mSl (mVar 0) (moS (mC (.int 1))) (moN)) (mCons (mTab T_SHAPES (mOp fIx (mVar 0) (mC (.int 0)))) (mNil)))) (gmTup (gmCons (gmName 2) (gmCons (gmName 3) (gmNil)))) (mIf (mTst (mOp fEq (mVar 3) (mC (.str "l")))) (mExpr (mBm tyL bAppend (mVar 1) (mCons (mCall (p_frozen n) (mCons (mVar 2) (mNil))) (mNil)))) (mIf (mTst (mOp fEq (mVar 3) (mC (.str "h")))) (mExpr (mBm tyL bAppend (mVar 1) (mCons (mCallB (pu gTuple) (mCons (mVar 2) (mNil))) (mNil)))) (mExpr (mBm tyL bAppend (mVar 1) (mCons (mVar 2) (mNil)))))))
      (mRet (mTup (mCons (mOp fIx (mVar 0) (mC (.int 0))) (mStar (mVar 1) (mNil)))))))
noncomputable def p_frozen : Nat → FM
  | 0 => fun _ _ => none
  | n + 1 => fnM 2 (mRet (mCallB (pu gTuple) (mCons (mLc (miSeq (mVar 0)) [1] (gmName 1) (mYes) (mCall (p_frozen_step n) (mCons (mVar 1) (mNil)))) (mNil))))
end
noncomputable def c_Part_init : FM := fnM 3 (mSeq (mSet 2 (mCall (p_first_bad 20) (mCons (mVar 1) (mCons (mTup (mNil)) (mNil)))))
      (mSeq (mIf (mTst (mOp fNotN (mVar 2) (mC .non))) (mHalt) (mNext))
      (mFldSet "Part" "frozen_steps" (mVar 0) (mCall (p_frozen 20) (mCons (mVar 1) (mNil))))))
noncomputable def l_draw : FM := fnM 4 (mSeq (mAsg (mOp fAdd (mOp fIx (mVar 0) (mC (.int 2))) (mC (.int 1))) (gmSub (mVar 0) (mC (.int 2))))
      (mSeq (mIf (mAnd (mTst (mOp fEq (mOp fIx (mVar 0) (mC (.int 1))) (mC (.int 0)))) (mTst (mOp fNe (mOp fIx (mVar 0) (mC (.int 0))) (mLst (mNil))))) (mSeq (mAsg (mBm tyL bPopAt (mOp fIx (mVar 0) (mC (.int 0))) (mCons (mC (.int 0)) (mNil))) (gmSub (mVar 0) (mC (.int 1))))
      (mIf (mTst (mOp fLt (mOp fIx (mVar 0) (mC (.int 1))) (mOp fPow (mC (.int 10)) (mC (.int 18))))) (mSeq (mAsg (mOp fMod (mCallB (pu gInt) (mCons (mOp fAdd (mOp fAdd (mOp fMul (mOp fIx (mVar 0) (mC (.int 3))) (mC (.int 31))) (mOp fIx (mVar 0) (mC (.int 1)))) (mC (.int 7))) (mNil))) (mC (.int 2147483647))) (gmSub (mVar 0) (mC (.int 3))))
      (mAsg (mC (.int 0)) (gmSub (mVar 0) (mC (.int 1))))) (mNext))) (mNext))
      (mSeq (mIf (mTst (mOp fGt (mOp fIx (mVar 0) (mC (.int 1))) (mC (.int 0)))) (mSeq (mSet 3 (mOp fMod (mCallB (pu gInt) (mCons (mOp fIx (mVar 0) (mC (.int 1))) (mNil))) (mVar 1)))
      (mSeq (mAsg (mOp fDiv (mOp fIx (mVar 0) (mC (.int 1))) (mVar 1)) (gmSub (mVar 0) (mC (.int 1))))
      (mRet (mVar 3)))) (mNext))
      (mSeq (mSet 2 (mOp fMod (mOp fPow (mOp fAdd (mOp fAdd (mOp fIx (mVar 0) (mC (.int 3))) (mOp fMul (mC (.int 104729)) (mOp fIx (mVar 0) (mC (.int 2))))) (mC (.int 17))) (mC (.int 5))) (mC (.int 2147483629))))
      (mRet (mOp fMod (mOp fMod (mOp fPow (mOp fAdd (mOp fAdd (mOp fMul (mVar 2) (mC (.int 48271))) (mOp fMul (mOp fMul (mC (.int 40503)) (mOp fIx (mVar 0) (mC (.int 2)))) (mOp fIx (mVar 0) (mC (.int 2))))) (mC (.int 13))) (mC (.int 3))) (mC (.int 1000000007))) (mVar 1)))))))
noncomputable def l_pick : FM := fnM 2 (mRet (mOp fIx (mVar 1) (mCall l_draw (mCons (mVar 0) (mCons (mCallB (pu gLen) (mCons (mVar 1) (mNil))) (mNil))))))
noncomputable def l_name : FM := fnM 3 (mSeq (mSet 1 (mOp fIx (mLst (mCons (mC (.int 1)) (mCons (mC (.int 1)) (mCons (mC (.int 2)) (mCons (mC (.int 3)) (mCons (mC (.int 5)) (mCons (mC (.int 8)) (mNil)))))))) (mCall l_draw (mCons (mVar 0) (mCons (mC (.int 6)) (mNil))))))
      (mRet (mBm tyS bJoin (mC (.str "")) (mCons (mLc (miRng (mCons (mVar 1) (mNil))) [2] (gmName 2) (mYes) (mCall l_pick (mCons (mVar 0) (mCons (mC (.str "abcdefghijklmnopqrstuvwxyz")) (mNil))))) (mNil)))))
noncomputable def l_names : FM := fnM 8 (mSeq (mSet 2 (mLstB (mNil)))
      (mSeq (mFor (miRng (mCons (mVar 1) (mNil))) (gmName 3) (mSeq (mSet 4 (mCall l_name (mCons (mVar 0) (mNil))))
      (mSeq (mSet 5 (mOp fAdd (mLst (mCons (mVar 4) (mNil))) (mLc (miSeq (mC (.str "abcdefgh"))) [6] (gmName 6) (mYes) (mOp fAdd (mOp fAdd (mVar 6) (mC (.str "z"))) (mVar 6)))))
      (mExpr (mBm tyL bAppend (mVar 2) (mCons (mOp fIx (mLc (miSeq (mVar 5)) [7] (gmName 7) (mTst (mOp fNotIn (mVar 7) (mVar 2))) (mVar 7)) (mC (.int 0))) (mNil)))))))
      (mRet (mVar 2))))
noncomputable def l_wide_pool : FM := fnM 6 (mSeq (mPar 3 4 (mCons (mOp fIx (mLst (mCons (mC (.int 3)) (mCons (mC (.int 3)) (mCons (mC (.int 3)) (mCons (mC (.int 6)) (mNil)))))) (mCall l_draw (mCons (mVar 0) (mCons (mC (.int 4)) (mNil))))) (mCons (mDNew) (mNil))))
      (mSeq (mSet 1 (mLst (mCons (mC (.str "answer")) (mCons (mC (.str "none")) (mCons (mC (.str "then")) (mCons (mC (.str "else")) (mCons (mC (.str "either")) (mCons (mC (.str "hole")) (mCons (mC (.str "say")) (mCons (mC (.str "each")) (mCons (mC (.str "back")) (mCons (mC (.str "word")) (mNil)))))))))))))
      (mSeq (mFor (miSeq (mTup (mCons (mC (.str "cells")) (mCons (mC (.str "words")) (mCons (mC (.str "faults")) (mNil)))))) (gmName 2) (mSeq (mDPut (mCall l_names (mCons (mVar 0) (mCons (mIfE (mTst (mOp fEq (mVar 2) (mC (.str "faults")))) (mOp fDiv (mOp fMul (mVar 3) (mC (.int 2))) (mC (.int 3))) (mVar 3)) (mNil)))) (mVar 4) (mVar 2))
      (mSeq (mSet 5 (mOp fIx (mVar 1) (mCall l_draw (mCons (mVar 0) (mCons (mIfE (mTst (mOp fEq (mVar 2) (mC (.str "faults")))) (mC (.int 8)) (mC (.int 10))) (mNil))))))
      (mIf (mAnd (mTst (mOp fEq (mCall l_draw (mCons (mVar 0) (mCons (mC (.int 3)) (mNil)))) (mC (.int 0)))) (mTst (mOp fNotIn (mVar 5) (mDGet (mVar 4) (mVar 2))))) (mAsg (mVar 5) (gmSub (mDGet (mVar 4) (mVar 2)) (mC (.int 0)))) (mNext)))))
      (mRet (mVar 4)))))
noncomputable def l_listed : Nat → FM
  | 0 => fun _ _ => none
  | n + 1 => fnM 4 (mSeq (mIf (mNot (mTst (mIsi (fB ["tuple"]) (mVar 1)))) (mRet (mVar 1)) (mNext))
      (mSeq (mSet 2 (mLcB (miSeq (mVar 1)) [3] (gmName 3) (mYes) (mCall (l_listed n) (mCons (mVar 0) (mCons (mVar 3) (mNil))))))
      (mRet (mIfE (mTst (mOp fEq (mCall l_draw (mCons (mVar 0) (mCons (mC (.int 2)) (mNil)))) (mC (.int 0)))) (mVar 2) (mCallB (pu gTuple) (mCons (mVar 2) (mNil)))))))
noncomputable def l_spoil : Nat → FM
  | 0 => fun _ _ => none
  | n + 1 => fnM 2 (mSeq (mIf (mTst (mIsi (fB ["list", "tuple"]) (mVar 0))) (mFor (miSeq (mCallB (pu gList) (mCons (mVar 0) (mNil)))) (gmName 1) (mExpr (mCall (l_spoil n) (mCons (mVar 1) (mNil))))) (mNext))
      (mIf (mTst (mIsi (fB ["list"]) (mVar 0))) (mExpr (mBm tyL bAppend (mVar 0) (mCons (mC (.int 0)) (mNil)))) (mNext)))
noncomputable def l_same : FM := fnM 2 (mRet (mOp fEqT (mCallB (pu gRepr) (mCons (mVar 0) (mNil))) (mCallB (pu gRepr) (mCons (mVar 1) (mNil)))))
noncomputable def l_number : FM := fnM 2 (mSeq (mSet 1 (mCall l_draw (mCons (mVar 0) (mCons (mC (.int 16)) (mNil)))))
      (mSeq (mIf (mTst (mOp fEq (mVar 1) (mC (.int 0)))) (mRet (mOp fMul (mOp fIx (mLst (mCons (mC (.int 1)) (mCons (mUn fNeg (mC (.int 1))) (mNil)))) (mCall l_draw (mCons (mVar 0) (mCons (mC (.int 2)) (mNil))))) (mOp fSub (mOp fSub (mOp fPow (mC (.int 10)) (mC (.int 30))) (mC (.int 50))) (mCall l_draw (mCons (mVar 0) (mCons (mC (.int 9)) (mNil))))))) (mNext))
      (mRet (mIfE (mTst (mOp fLt (mVar 1) (mC (.int 11)))) (mOp fSub (mVar 1) (mC (.int 8))) (mOp fSub (mVar 1) (mC (.int 12)))))))
noncomputable def l_plain : FM := fnM 4 (mSeq (mPar 2 3 (mCons (mCall l_draw (mCons (mVar 0) (mCons (mC (.int 11)) (mNil)))) (mCons (mCall l_pick (mCons (mVar 0) (mCons (mDGet (mVar 1) (mC (.str "cells"))) (mNil)))) (mNil))))
      (mSeq (mIf (mTst (mOp fLt (mVar 2) (mC (.int 3)))) (mRet (mTup (mCons (mC (.str "say")) (mCons (mCall l_pick (mCons (mVar 0) (mCons (mDGet (mVar 1) (mC (.str "words"))) (mNil)))) (mNil))))) (mNext))
      (mSeq (mIf (mTst (mOp fLt (mVar 2) (mC (.int 7)))) (mRet (mTup (mCons (mOp fIx (mLst (mCons (mC (.str "set")) (mCons (mC (.str "add")) (mNil)))) (mOp fDiv (mVar 2) (mC (.int 5)))) (mCons (mVar 3) (mCons (mCall l_number (mCons (mVar 0) (mNil))) (mNil)))))) (mNext))
      (mSeq (mIf (mTst (mOp fEq (mVar 2) (mC (.int 7)))) (mRet (mTup (mCons (mC (.str "copy")) (mCons (mVar 3) (mCons (mCall l_pick (mCons (mVar 0) (mCons (mDGet (mVar 1) (mC (.str "cells"))) (mNil)))) (mCons (mCall l_number (mCons (mVar 0) (mNil))) (mNil))))))) (mNext))
      (mSeq (mIf (mTst (mOp fEq (mVar 2) (mC (.int 8)))) (mRet (mTup (mCons (mC (.str "fault")) (mCons (mCall l_pick (mCons (mVar 0) (mCons (mDGet (mVar 1) (mC (.str "faults"))) (mNil)))) (mNil))))) (mNext))
      (mRet (mIfE (mTst (mOp fEq (mVar 2) (mC (.int 9)))) (mTup (mCons (mC (.str "back")) (mNil))) (mTup (mCons (mC (.str "hole")) (mNil))))))))))
noncomputable def l_mixed : FM := fnM 4 (mSeq (mSet 2 (mCallB gListB (mCons (mVar 1) (mNil))))
      (mRet (mLc (miRng (mCons (mCallB (pu gLen) (mCons (mVar 2) (mNil))) (mNil))) [3] (gmName 3) (mYes) (mBm tyL bPopAt (mVar 2) (mCons (mCall l_draw (mCons (mVar 0) (mCons (mCallB (pu gLen) (mCons (mVar 2) (mNil))) (mNil)))) (mNil))))))
noncomputable def l_held : FM := fnM 3 (mRet (mCallB (pu gTuple) (mCons (mLc (miSeq (mCall l_mixed (mCons (mVar 0) (mCons (mDGet (mVar 1) (mC (.str "cells"))) (mNil))))) [2] (gmName 2) (mTst (mOp fEq (mCall l_draw (mCons (mVar 0) (mCons (mC (.int 2)) (mNil)))) (mC (.int 0)))) (mVar 2)) (mNil))))
noncomputable def l_plains : FM := fnM 4 (mRet (mCallB (pu gTuple) (mCons (mLc (miRng (mCons (mCall l_draw (mCons (mVar 0) (mCons (mOp fAdd (mVar 2) (mC (.int 1))) (mNil)))) (mNil))) [3] (gmName 3) (mYes) (mCall l_plain (mCons (mVar 0) (mCons (mVar 1) (mNil))))) (mNil))))
noncomputable def l_times : FM := fnM 6 (mSeq (mPar 3 4 (mCons (mCall l_draw (mCons (mVar 0) (mCons (mC (.int 4)) (mNil)))) (mCons (mCall l_plains (mCons (mVar 0) (mCons (mVar 1) (mCons (mC (.int 2)) (mNil))))) (mNil))))
      (mSeq (mAsg (mOp fSub (mOp fIx (mVar 2) (mC (.int 2))) (mCallB (pu gLen) (mCons (mVar 4) (mNil)))) (gmSub (mVar 2) (mC (.int 2))))
      (mSeq (mIf (mAnd (mTst (mOp fGt (mVar 3) (mC (.int 0)))) (mAnd (mTst (mOp fGe (mOp fIx (mVar 2) (mC (.int 0))) (mVar 3))) (mTst (mOp fEq (mCall l_draw (mCons (mVar 0) (mCons (mC (.int 2)) (mNil)))) (mC (.int 0)))))) (mSeq (mAsg (mTup (mCons (mOp fSub (mOp fIx (mVar 2) (mC (.int 0))) (mVar 3)) (mCons (mOp fSub (mOp fIx (mVar 2) (mC (.int 2))) (mC (.int 2))) (mNil)))) (gmTup (gmCons (gmSub (mVar 2) (mC (.int 0))) (gmCons (gmSub (mVar 2) (mC (.int 2))) (gmNil)))))
      (mSeq (mSet 5 (mTup (mCons (mCall l_plain (mCons (mVar 0) (mCons (mVar 1) (mNil)))) (mNil))))
      (mRet (mTup (mCons (mC (.str "times")) (mCons (mVar 3) (mCons (mTup (mCons (mTup (mCons (mC (.str "either")) (mCons (mCall l_held (mCons (mVar 0) (mCons (mVar 1) (mNil)))) (mCons (mVar 4) (mCons (mVar 5) (mNil)))))) (mNil))) (mNil)))))))) (mNext))
      (mRet (mTup (mCons (mC (.str "times")) (mCons (mVar 3) (mCons (mVar 4) (mNil)))))))))
mutual
noncomputable def l_steps : Nat → FM
  | 0 => fun _ _ => none
  | n + 1 => fnM 6 (mSeq (mSet 4 (mLstB (mNil)))
      (mSeq (mFor (miRng (mCons (mCall l_draw (mCons (mVar 0) (mCons (mC (.int 4)) (mNil)))) (mNil))) (gmName 5) (mIf (mTst (mOp fGt (mOp fIx (mVar 2) (mC (.int 2))) (mC (.int 0)))) (mExpr (mBm tyL bAppend (mVar 4) (mCons (mCall (l_step n) (mCons (mVar 0) (mCons (mVar 1) (mCons (mVar 2) (mCons (mVar 3) (mNil)))))) (mNil)))) (mNext)))
      (mRet (mCallB (pu gTuple) (mCons (mVar 4) (mNil))))))
noncomputable def l_test : Nat → FM
  | 0 => fun _ _ => none
  | n + 1 => fnM 8 (mSeq (mAsg (mOp fSub (mOp fIx (mVar 2) (mC (.int 1))) (mC (.int 1))) (gmSub (mVar 2) (mC (.int 1))))
      (mSeq (mPar 6 7 (mCons (mCall l_pick (mCons (mVar 0) (mCons (mDGet (mVar 1) (mC (.str "cells"))) (mNil)))) (mCons (mCall l_number (mCons (mVar 0) (mNil))) (mNil))))
      (mSeq (mSet 4 (mCall (l_steps n) (mCons (mVar 0) (mCons (mVar 1) (mCons (mVar 2) (mCons (mVar 3) (mNil)))))))
      (mSeq (mSet 5 (mCall (l_steps n) (mCons (mVar 0) (mCons (mVar 1) (mCons (mVar 2) (mCons (mVar 3) (mNil)))))))
      (mSeq (mIf (mTst (mOp fEq (mCall l_draw (mCons (mVar 0) (mCons (mC (.int 2)) (mNil)))) (mC (.int 0)))) (mRet (mTup (mCons (mC (.str "less")) (mCons (mVar 6) (mCons (mVar 7) (mCons (mVar 4) (mCons (mVar 5) (mNil)))))))) (mNext))
      (mRet (mTup (mCons (mC (.str "below")) (mCons (mVar 6) (mCons (mCall l_pick (mCons (mVar 0) (mCons (mDGet (mVar 1) (mC (.str "cells"))) (mNil)))) (mCons (mVar 7) (mCons (mVar 4) (mCons (mVar 5) (mNil))))))))))))))
noncomputable def l_choice : Nat → FM
  | 0 => fun _ _ => none
  | n + 1 => fnM 8 (mSeq (mAsg (mOp fSub (mOp fIx (mVar 2) (mC (.int 0))) (mC (.int 1))) (gmSub (mVar 2) (mC (.int 0))))
      (mSeq (mPar 6 7 (mCons (mCall l_held (mCons (mVar 0) (mCons (mVar 1) (mNil)))) (mCons (mCall l_draw (mCons (mVar 0) (mCons (mC (.int 4)) (mNil)))) (mNil))))
      (mSeq (mSet 4 (mCall (l_steps n) (mCons (mVar 0) (mCons (mVar 1) (mCons (mVar 2) (mCons (mVar 3) (mNil)))))))
      (mSeq (mSet 5 (mCall (l_steps n) (mCons (mVar 0) (mCons (mVar 1) (mCons (mVar 2) (mCons (mVar 3) (mNil)))))))
      (mSeq (mIf (mTst (mOp fLt (mVar 7) (mC (.int 2)))) (mRet (mTup (mCons (mC (.str "either")) (mCons (mVar 6) (mCons (mVar 4) (mCons (mVar 5) (mNil))))))) (mNext))
      (mSeq (mIf (mTst (mOp fEq (mVar 7) (mC (.int 2)))) (mRet (mTup (mCons (mC (.str "each")) (mCons (mVar 6) (mCons (mVar 4) (mCons (mVar 5) (mNil))))))) (mNext))
      (mRet (mTup (mCons (mC (.str "whether")) (mCons (mVar 6) (mCons (mVar 4) (mCons (mVar 5) (mCons (mCall (l_steps n) (mCons (mVar 0) (mCons (mVar 1) (mCons (mVar 2) (mCons (mVar 3) (mNil)))))) (mNil))))))))))))))
noncomputable def l_step : Nat → FM
  | 0 => fun _ _ => none
  | n + 1 => fnM 9 (mSeq (mAsg (mOp fSub (mOp fIx (mVar 2) (mC (.int 2))) (mC (.int 1))) (gmSub (mVar 2) (mC (.int 2))))
      (mSeq (mSet 4 (mIfE (mTst (mOp fGt (mVar 3) (mC (.int 0)))) (mCall l_draw (mCons (mVar 0) (mCons (mC (.int 17)) (mNil)))) (mC (.int 0))))
      (mSeq (mIf (mAnd (mTst (mChain (cI (fun i j => decide (i ≤ j))) (cI (fun i j => decide (i < j))) (mC (.int 5)) (mVar 4) (mC (.int 8)))) (mTst (mOp fGt (mOp fIx (mVar 2) (mC (.int 1))) (mC (.int 0))))) (mRet (mCall (l_test n) (mCons (mVar 0) (mCons (mVar 1) (mCons (mVar 2) (mCons (mOp fSub (mVar 3) (mC (.int 1))) (mNil))))))) (mNext))
      (mSeq (mIf (mAnd (mTst (mChain (cI (fun i j => decide (i ≤ j))) (cI (fun i j => decide (i < j))) (mC (.int 8)) (mVar 4) (mC (.int 12)))) (mTst (mOp fGt (mOp fIx (mVar 2) (mC (.int 0))) (mC (.int 0))))) (mRet (mCall (l_choice n) (mCons (mVar 0) (mCons (mVar 1) (mCons (mVar 2) (mCons (mOp fSub (mVar 3) (mC (.int 1))) (mNil))))))) (mNext))
      (mSeq (mIf (mTst (mChain (cI (fun i j => decide (i ≤ j))) (cI (fun i j => decide (i < j))) (mC (.int 12)) (mVar 4) (mC (.int 15)))) (mSeq (mPar 7 8 (mCons (mCall l_held (mCons (mVar 0) (mCons (mVar 1) (mNil)))) (mCons (mCall l_pick (mCons (mVar 0) (mCons (mDGet (mVar 1) (mC (.str "faults"))) (mNil)))) (mNil))))
      (mSeq (mSet 5 (mCall (l_steps n) (mCons (mVar 0) (mCons (mVar 1) (mCons (mVar 2) (mCons (mOp fSub (mVar 3) (mC (.int 1))) (mNil)))))))
      (mSeq (mSet 6 (mCall (l_steps n) (mCons (mVar 0) (mCons (mVar 1) (mCons (mVar 2) (mCons (mOp fSub (mVar 3) (mC (.int 1))) (mNil)))))))
      (mRet (mIfE (mTst (mOp fEq (mVar 4) (mC (.int 14)))) (mTup (mCons (mC (.str "last")) (mCons (mVar 5) (mCons (mVar 6) (mNil))))) (mTup (mCons (mC (.str "catch")) (mCons (mVar 8) (mCons (mVar 7) (mCons (mVar 5) (mCons (mVar 6) (mNil)))))))))))) (mNext))
      (mSeq (mIf (mTst (mOp fGt (mVar 4) (mC (.int 14)))) (mRet (mCall l_times (mCons (mVar 0) (mCons (mVar 1) (mCons (mVar 2) (mNil)))))) (mNext))
      (mRet (mCall l_plain (mCons (mVar 0) (mCons (mVar 1) (mNil)))))))))))
end
noncomputable def l_part : FM := fnM 6 (mSeq (mPar 4 5 (mCons (mLstB (mCons (mVar 2) (mCons (mVar 3) (mCons (mC (.int 14)) (mNil))))) (mCons (mLstB (mNil)) (mNil))))
      (mSeq (whileL (mAnd (mTst (mOp fLt (mCallB (pu gLen) (mCons (mVar 5) (mNil))) (mC (.int 4)))) (mTst (mOp fGt (mOp fIx (mVar 4) (mC (.int 2))) (mC (.int 0))))) (mExpr (mBm tyL bAppend (mVar 5) (mCons (mCall (l_step 20) (mCons (mVar 0) (mCons (mVar 1) (mCons (mVar 4) (mCons (mC (.int 3)) (mNil)))))) (mNil)))) 12)
      (mRet (mCallB (pu gTuple) (mCons (mVar 5) (mNil))))))
noncomputable def l_shape : FM := fnM 3 (mSeq (mSet 1 (mDLit [("say", mC (.str "w")), ("set", mC (.str "cn")), ("add", mC (.str "cn")), ("copy", mC (.str "ccn")), ("less", mC (.str "cnll")), ("below", mC (.str "ccnll")), ("times", mC (.str "tl"))]))
      (mSeq (mSet 2 (mDLit [("fault", mC (.str "f")), ("catch", mC (.str "fhll")), ("last", mC (.str "ll")), ("back", mC (.str "")), ("either", mC (.str "hll")), ("whether", mC (.str "hlll")), ("each", mC (.str "hll"))]))
      (mRet (mDGet2 (mVar 1) (mVar 0) (mDGet2 (mVar 2) (mVar 0) (mIfE (mTst (mOp fEq (mVar 0) (mC (.str "hole")))) (mC (.str "")) (mC .non)))))))
noncomputable def l_lists : FM := fnM 3 (mRet (mLc (miZip (mCons (mSl (mVar 0) (moS (mC (.int 1))) (moN)) (mCons (mCall l_shape (mCons (mOp fIx (mVar 0) (mC (.int 0))) (mNil))) (mNil)))) [1, 2] (gmTup (gmCons (gmName 1) (gmCons (gmName 2) (gmNil)))) (mTst (mOp fEq (mVar 2) (mC (.str "l")))) (mVar 1)))
noncomputable def l_all : Nat → FM
  | 0 => fun _ _ => none
  | n + 1 => fnM 4 (mSeq (mSet 1 (mLstB (mNil)))
      (mSeq (mFor (miSeq (mVar 0)) (gmName 2) (mSeq (mExpr (mBm tyL bAppend (mVar 1) (mCons (mVar 2) (mNil))))
      (mFor (miSeq (mCall l_lists (mCons (mVar 2) (mNil)))) (gmName 3) (mExpr (mBm tyL bExtend (mVar 1) (mCons (mCall (l_all n) (mCons (mVar 3) (mNil))) (mNil)))))))
      (mRet (mFrz (mVar 1)))))
noncomputable def l_cells : FM := fnM 5 (mSeq (mSet 1 (mLstB (mNil)))
      (mSeq (mFor (miSeq (mCall (l_all 20) (mCons (mVar 0) (mNil)))) (gmName 2) (mFor (miZip (mCons (mSl (mVar 2) (moS (mC (.int 1))) (moN)) (mCons (mCall l_shape (mCons (mOp fIx (mVar 2) (mC (.int 0))) (mNil))) (mNil)))) (gmTup (gmCons (gmName 3) (gmCons (gmName 4) (gmNil)))) (mIf (mTst (mOp fIn (mVar 4) (mTup (mCons (mC (.str "c")) (mCons (mC (.str "h")) (mNil)))))) (mExpr (mBm tyL bExtend (mVar 1) (mCons (mIfE (mTst (mOp fEq (mVar 4) (mC (.str "c")))) (mLst (mCons (mVar 3) (mNil))) (mVar 3)) (mNil)))) (mNext))))
      (mRet (mSortSet (mVar 1)))))
noncomputable def l_words : FM := fnM 3 (mRet (mSortSet (mLc (miSeq (mCall (l_all 20) (mCons (mVar 0) (mNil)))) [2] (gmName 2) (mTst (mOp fIn (mOp fIx (mVar 2) (mC (.int 0))) (mVar 1))) (mOp fIx (mVar 2) (mC (.int 1))))))
noncomputable def c_Part_steps : FM := fnM 1 (mRet (mFld "Part" "frozen_steps" (mVar 0)))
noncomputable def p_all_steps : Nat → FM
  | 0 => fun _ _ => none
  | n + 1 => fnM 8 (mSeq (mSet 2 (mLstB (mNil)))
      (mSeq (mFor (miEnum (mCons (mVar 0) (mNil))) (gmTup (gmCons (gmName 3) (gmCons (gmName 4) (gmNil)))) (mSeq (mSet 5 (mTup (mStar (mVar 1) (mCons (mVar 3) (mNil)))))
      (mSeq (mExpr (mBm tyL bAppend (mVar 2) (mCons (mTup (mCons (mVar 5) (mCons (mVar 4) (mNil)))) (mNil))))
      (mFor (miEnum (mCons (mCall p_inner_lists (mCons (mVar 4) (mNil))) (mNil))) (gmTup (gmCons (gmName 6) (gmCons (gmName 7) (gmNil)))) (mExpr (mBm tyL bExtend (mVar 2) (mCons (mCall (p_all_steps n) (mCons (mVar 7) (mCons (mTup (mStar (mVar 5) (mCons (mVar 6) (mNil)))) (mNil)))) (mNil))))))))
      (mRet (mFrz (mVar 2)))))
noncomputable def p_names_at : FM := fnM 7 (mSeq (mSet 2 (mLstB (mNil)))
      (mSeq (mFor (miSeq (mCall (fun ds => (p_all_steps 20) (ds ++ [.tup []])) (mCons (mVar 0) (mNil)))) (gmTup (gmCons (gmName 3) (gmCons (gmName 4) (gmNil)))) (mFor (miZip (mCons (mSl (mVar 4) (moS (mC (.int 1))) (moN)) (mCons (mTab T_SHAPES (mOp fIx (mVar 4) (mC (.int 0)))) (mNil)))) (gmTup (gmCons (gmName 5) (gmCons (gmName 6) (gmNil)))) (mIf (mTst (mOp fIn (mVar 6) (mVar 1))) (mExpr (mBm tyL bExtend (mVar 2) (mCons (mIfE (mTst (mOp fEq (mVar 6) (mC (.str "h")))) (mVar 5) (mLst (mCons (mVar 5) (mNil)))) (mNil)))) (mNext))))
      (mRet (mSortSetB (mVar 2)))))
noncomputable def c_Part_cells : FM := fnM 1 (mRet (mCall p_names_at (mCons (mFld "Part" "frozen_steps" (mVar 0)) (mCons (mC (.str "ch")) (mNil)))))
noncomputable def c_Part_words : FM := fnM 4 (mSeq (mSet 1 (mLc (miSeq (mCall (fun ds => (p_all_steps 20) (ds ++ [.tup []])) (mCons (mFld "Part" "frozen_steps" (mVar 0)) (mNil)))) [2, 3] (gmTup (gmCons (gmName 2) (gmCons (gmName 3) (gmNil)))) (mTst (mOp fEq (mOp fIx (mVar 3) (mC (.int 0))) (mC (.str "say")))) (mOp fIx (mVar 3) (mC (.int 1)))))
      (mRet (mSortSetB (mVar 1))))
noncomputable def c_Part_faults : FM := fnM 4 (mSeq (mSet 1 (mLc (miSeq (mCall (fun ds => (p_all_steps 20) (ds ++ [.tup []])) (mCons (mFld "Part" "frozen_steps" (mVar 0)) (mNil)))) [2, 3] (gmTup (gmCons (gmName 2) (gmCons (gmName 3) (gmNil)))) (mOr (mTst (mOp fEq (mOp fIx (mVar 3) (mC (.int 0))) (mC (.str "fault")))) (mTst (mOp fEq (mOp fIx (mVar 3) (mC (.int 0))) (mC (.str "catch"))))) (mOp fIx (mVar 3) (mC (.int 1)))))
      (mRet (mSortSetB (mVar 1))))
noncomputable def c_Part_len : FM := fnM 1 (mRet (mCallB (pu gLen) (mCons (mCall (fun ds => (p_all_steps 20) (ds ++ [.tup []])) (mCons (mFld "Part" "frozen_steps" (mVar 0)) (mNil))) (mNil))))
noncomputable def l_told : FM := fnM 1 (mRet (mLst (mCons (mMeth "Part" "steps" c_Part_steps (mVar 0) mNil) (mCons (mMeth "Part" "cells" c_Part_cells (mVar 0) mNil) (mCons (mMeth "Part" "words" c_Part_words (mVar 0) mNil) (mCons (mMeth "Part" "faults" c_Part_faults (mVar 0) mNil) (mCons (mLenO "Part" c_Part_len (mVar 0)) (mNil))))))))
noncomputable def c_Part_eq : FM := fnM 2 (mRet (mAndV (mIsi isC_Part (mVar 1)) (mOp fEq (mFld "Part" "frozen_steps" (mVar 0)) (mFld "Part" "frozen_steps" (mVar 1)))))
noncomputable def law_ : FM := fnM 15 (mSeq (mSet 1 (mCall l_start (mCons (mVar 0) (mNil))))
      (mSeq (mFor (miRng (mCons (mC (.int 5)) (mNil))) (gmName 2) (mSeq (mSet 4 (mCall l_wide_pool (mCons (mVar 1) (mNil))))
      (mSeq (mPar 11 12 (mCons (mCall l_part (mCons (mVar 1) (mCons (mVar 4) (mCons (mC (.int 3)) (mCons (mC (.int 3)) (mNil)))))) (mCons (mCall l_part (mCons (mVar 1) (mCons (mVar 4) (mCons (mC (.int 1)) (mCons (mC (.int 1)) (mNil)))))) (mNil))))
      (mSeq (mSet 5 (mCall (l_listed 20) (mCons (mVar 1) (mCons (mVar 11) (mNil)))))
      (mSeq (mSet 6 (mMake "Part" c_Part_init (mCons (mVar 5) (mNil))))
      (mSeq (mExpr (mCall (l_spoil 20) (mCons (mVar 5) (mNil))))
      (mSeq (mSet 7 (mLst (mCons (mVar 11) (mCons (mCall l_cells (mCons (mVar 11) (mNil))) (mCons (mCall l_words (mCons (mVar 11) (mCons (mTup (mCons (mC (.str "say")) (mNil))) (mNil)))) (mNil))))))
      (mSeq (mSet 7 (mOp fAdd (mVar 7) (mLst (mCons (mCall l_words (mCons (mVar 11) (mCons (mTup (mCons (mC (.str "fault")) (mCons (mC (.str "catch")) (mNil)))) (mNil)))) (mCons (mCallB (pu gLen) (mCons (mCall (l_all 20) (mCons (mVar 11) (mNil))) (mNil))) (mNil))))))
      (mSeq (mFor (miRng (mCons (mC (.int 2)) (mNil))) (gmName 8) (mSeq (mSet 13 (mCall l_told (mCons (mVar 6) (mNil))))
      (mSeq (mIf (mNot (mTst (mCall l_same (mCons (mVar 13) (mCons (mVar 7) (mNil)))))) (mRet (mC (.bl false))) (mNext))
      (mFor (miSeq (mSl (mVar 13) (moS (mC (.int 1))) (moS (mC (.int 4))))) (gmName 14) (mExpr (mBm tyL bAppend (mVar 14) (mCons (mC (.str "zz")) (mNil))))))))
      (mSeq (mSet 9 (mMake "Part" c_Part_init (mCons (mOp fAdd (mVar 11) (mTup (mCons (mTup (mCons (mC (.str "hole")) (mNil))) (mNil)))) (mNil))))
      (mSeq (mSet 10 (mLst (mCons (mEqO "Part" okE_Part c_Part_eq (mVar 6) (mMake "Part" c_Part_init (mCons (mVar 11) (mNil)))) (mCons (mNeO "Part" okE_Part c_Part_eq (mVar 6) (mMake "Part" c_Part_init (mCons (mVar 11) (mNil)))) (mCons (mEqO "Part" okE_Part c_Part_eq (mVar 6) (mMake "Part" c_Part_init (mCons (mCallB gListB (mCons (mVar 12) (mNil))) (mNil)))) (mNil))))))
      (mSeq (mSet 10 (mOp fAdd (mVar 10) (mLst (mCons (mEqO "Part" okE_Part c_Part_eq (mVar 6) (mVar 9)) (mCons (mEqO "Part" okE_Part c_Part_eq (mVar 6) (mVar 11)) (mNil))))))
      (mIf (mNot (mTst (mCall l_same (mCons (mVar 10) (mCons (mLst (mCons (mC (.bl true)) (mCons (mC (.bl false)) (mCons (mOp fEq (mVar 11) (mVar 12)) (mCons (mC (.bl false)) (mCons (mC (.bl false)) (mNil))))))) (mNil)))))) (mRet (mC (.bl false))) (mNext))))))))))))))
      (mSeq (mSet 3 (mMake "Part" c_Part_init (mCons (mLstB (mNil)) (mNil))))
      (mRet (mAndV (mCall l_same (mCons (mCall l_told (mCons (mVar 3) (mNil))) (mCons (mLst (mCons (mTup (mNil)) (mCons (mLst (mNil)) (mCons (mLst (mNil)) (mCons (mLst (mNil)) (mCons (mC (.int 0)) (mNil))))))) (mNil)))) (mEqO "Part" okE_Part c_Part_eq (mVar 3) (mMake "Part" c_Part_init (mCons (mTup (mNil)) (mNil)))))))))
end MP

set_option Elab.async false
set_option linter.all false
set_option maxRecDepth 100000
set_option maxHeartbeats 4000000
namespace MP
open PySem L2
/-! the facts of law_k01_parts_told -/
def fa0 : List He.Fa := [.glo "law", .cls "Part", .free "list", .free "tuple", .free "isinstance", .free "str", .free "len", .str "LETTERS" "abcdefghijklmnopqrstuvwxyz", .free "all", .free "int", .free "bool", .glo "is_list", .glo "is_name", .free "set", .glo "is_integer", .glo "is_held", .glo "SHAPES", .free "zip", .glo "fits", .free "enumerate", .glo "is_step", .glo "inner_lists", .glo "first_bad", .glo "frozen", .glo "frozen_step", .noat "Part" "frozen_steps", .glo "_law_draw", .free "range", .glo "_law_pick", .glo "_law_name", .glo "_law_names", .glo "_law_listed", .glo "_law_spoil", .free "repr", .glo "_law_number", .glo "_law_mixed", .glo "_law_plain", .glo "_law_plains", .glo "_law_held", .glo "_law_step", .glo "_law_steps", .glo "_law_test", .glo "_law_choice", .glo "_law_times", .glo "_law_shape", .glo "_law_lists", .glo "_law_all", .free "sorted", .glo "all_steps", .glo "names_at", .meth "Part" "steps", .meth "Part" "cells", .meth "Part" "words", .meth "Part" "faults", .meth "Part" "__len__", .glo "Part", .glo "_law_start", .glo "_law_wide_pool", .glo "_law_part", .mkr "Part", .glo "_law_cells", .glo "_law_words", .glo "_law_told", .glo "_law_same", .meth "Part" "__eq__"]
def d_l_start : He.DefD := ⟨("_law_start", none), "_law_start", "_law_start", defArgs s_l_start, defBody s_l_start, defScope s_l_start, [], []⟩
def d_p_is_list : He.DefD := ⟨("is_list", none), "is_list", "is_list", defArgs s_p_is_list, defBody s_p_is_list, defScope s_p_is_list, [], []⟩
def d_p_is_name : He.DefD := ⟨("is_name", none), "is_name", "is_name", defArgs s_p_is_name, defBody s_p_is_name, defScope s_p_is_name, [], []⟩
def d_p_is_integer : He.DefD := ⟨("is_integer", none), "is_integer", "is_integer", defArgs s_p_is_integer, defBody s_p_is_integer, defScope s_p_is_integer, [], []⟩
def d_p_is_held : He.DefD := ⟨("is_held", none), "is_held", "is_held", defArgs s_p_is_held, defBody s_p_is_held, defScope s_p_is_held, [], []⟩
def d_p_fits : He.DefD := ⟨("fits", none), "fits", "fits", defArgs s_p_fits, defBody s_p_fits, defScope s_p_fits, [], []⟩
def d_p_is_step : He.DefD := ⟨("is_step", none), "is_step", "is_step", defArgs s_p_is_step, defBody s_p_is_step, defScope s_p_is_step, [], []⟩
def d_p_inner_lists : He.DefD := ⟨("inner_lists", none), "inner_lists", "inner_lists", defArgs s_p_inner_lists, defBody s_p_inner_lists, defScope s_p_inner_lists, [], []⟩
def d_p_first_bad : He.DefD := ⟨("first_bad", none), "first_bad", "first_bad", defArgs s_p_first_bad, defBody s_p_first_bad, defScope s_p_first_bad, [], []⟩
def d_p_frozen_step : He.DefD := ⟨("frozen_step", none), "frozen_step", "frozen_step", defArgs s_p_frozen_step, defBody s_p_frozen_step, defScope s_p_frozen_step, [], []⟩
def d_p_frozen : He.DefD := ⟨("frozen", none), "frozen", "frozen", defArgs s_p_frozen, defBody s_p_frozen, defScope s_p_frozen, [], []⟩
def d_c_Part_init : He.DefD := ⟨("Part", some "__init__"), "__init__", "Part.__init__", defArgs s_c_Part_init, defBody s_c_Part_init, defScope s_c_Part_init, [], []⟩
def d_l_draw : He.DefD := ⟨("_law_draw", none), "_law_draw", "_law_draw", defArgs s_l_draw, defBody s_l_draw, defScope s_l_draw, [], []⟩
def d_l_pick : He.DefD := ⟨("_law_pick", none), "_law_pick", "_law_pick", defArgs s_l_pick, defBody s_l_pick, defScope s_l_pick, [], []⟩
def d_l_name : He.DefD := ⟨("_law_name", none), "_law_name", "_law_name", defArgs s_l_name, defBody s_l_name, defScope s_l_name, [], []⟩
def d_l_names : He.DefD := ⟨("_law_names", none), "_law_names", "_law_names", defArgs s_l_names, defBody s_l_names, defScope s_l_names, [], []⟩
def d_l_wide_pool : He.DefD := ⟨("_law_wide_pool", none), "_law_wide_pool", "_law_wide_pool", defArgs s_l_wide_pool, defBody s_l_wide_pool, defScope s_l_wide_pool, [], []⟩
def d_l_listed : He.DefD := ⟨("_law_listed", none), "_law_listed", "_law_listed", defArgs s_l_listed, defBody s_l_listed, defScope s_l_listed, [], []⟩
def d_l_spoil : He.DefD := ⟨("_law_spoil", none), "_law_spoil", "_law_spoil", defArgs s_l_spoil, defBody s_l_spoil, defScope s_l_spoil, [], []⟩
def d_l_same : He.DefD := ⟨("_law_same", none), "_law_same", "_law_same", defArgs s_l_same, defBody s_l_same, defScope s_l_same, [], []⟩
def d_l_number : He.DefD := ⟨("_law_number", none), "_law_number", "_law_number", defArgs s_l_number, defBody s_l_number, defScope s_l_number, [], []⟩
def d_l_plain : He.DefD := ⟨("_law_plain", none), "_law_plain", "_law_plain", defArgs s_l_plain, defBody s_l_plain, defScope s_l_plain, [], []⟩
def d_l_mixed : He.DefD := ⟨("_law_mixed", none), "_law_mixed", "_law_mixed", defArgs s_l_mixed, defBody s_l_mixed, defScope s_l_mixed, [], []⟩
def d_l_held : He.DefD := ⟨("_law_held", none), "_law_held", "_law_held", defArgs s_l_held, defBody s_l_held, defScope s_l_held, [], []⟩
def d_l_plains : He.DefD := ⟨("_law_plains", none), "_law_plains", "_law_plains", defArgs s_l_plains, defBody s_l_plains, defScope s_l_plains, [], []⟩
def d_l_times : He.DefD := ⟨("_law_times", none), "_law_times", "_law_times", defArgs s_l_times, defBody s_l_times, defScope s_l_times, [], []⟩
def d_l_steps : He.DefD := ⟨("_law_steps", none), "_law_steps", "_law_steps", defArgs s_l_steps, defBody s_l_steps, defScope s_l_steps, [], []⟩
def d_l_test : He.DefD := ⟨("_law_test", none), "_law_test", "_law_test", defArgs s_l_test, defBody s_l_test, defScope s_l_test, [], []⟩
def d_l_choice : He.DefD := ⟨("_law_choice", none), "_law_choice", "_law_choice", defArgs s_l_choice, defBody s_l_choice, defScope s_l_choice, [], []⟩
def d_l_step : He.DefD := ⟨("_law_step", none), "_law_step", "_law_step", defArgs s_l_step, defBody s_l_step, defScope s_l_step, [], []⟩
def d_l_part : He.DefD := ⟨("_law_part", none), "_law_part", "_law_part", defArgs s_l_part, defBody s_l_part, defScope s_l_part, [], []⟩
def d_l_shape : He.DefD := ⟨("_law_shape", none), "_law_shape", "_law_shape", defArgs s_l_shape, defBody s_l_shape, defScope s_l_shape, [], []⟩
def d_l_lists : He.DefD := ⟨("_law_lists", none), "_law_lists", "_law_lists", defArgs s_l_lists, defBody s_l_lists, defScope s_l_lists, [], []⟩
def d_l_all : He.DefD := ⟨("_law_all", none), "_law_all", "_law_all", defArgs s_l_all, defBody s_l_all, defScope s_l_all, [], []⟩
def d_l_cells : He.DefD := ⟨("_law_cells", none), "_law_cells", "_law_cells", defArgs s_l_cells, defBody s_l_cells, defScope s_l_cells, [], []⟩
def d_l_words : He.DefD := ⟨("_law_words", none), "_law_words", "_law_words", defArgs s_l_words, defBody s_l_words, defScope s_l_words, [], []⟩
def d_c_Part_steps : He.DefD := ⟨("Part", some "steps"), "steps", "Part.steps", defArgs s_c_Part_steps, defBody s_c_Part_steps, defScope s_c_Part_steps, [], []⟩
def d_p_all_steps : He.DefD := ⟨("all_steps", none), "all_steps", "all_steps", defArgs s_p_all_steps, defBody s_p_all_steps, defScope s_p_all_steps, [.adr (He.dflAt ("all_steps", none) 0)], []⟩
def d_p_names_at : He.DefD := ⟨("names_at", none), "names_at", "names_at", defArgs s_p_names_at, defBody s_p_names_at, defScope s_p_names_at, [], []⟩
def d_c_Part_cells : He.DefD := ⟨("Part", some "cells"), "cells", "Part.cells", defArgs s_c_Part_cells, defBody s_c_Part_cells, defScope s_c_Part_cells, [], []⟩
def d_c_Part_words : He.DefD := ⟨("Part", some "words"), "words", "Part.words", defArgs s_c_Part_words, defBody s_c_Part_words, defScope s_c_Part_words, [], []⟩
def d_c_Part_faults : He.DefD := ⟨("Part", some "faults"), "faults", "Part.faults", defArgs s_c_Part_faults, defBody s_c_Part_faults, defScope s_c_Part_faults, [], []⟩
def d_c_Part_len : He.DefD := ⟨("Part", some "__len__"), "__len__", "Part.__len__", defArgs s_c_Part_len, defBody s_c_Part_len, defScope s_c_Part_len, [], []⟩
def d_l_told : He.DefD := ⟨("_law_told", none), "_law_told", "_law_told", defArgs s_l_told, defBody s_l_told, defScope s_l_told, [], []⟩
def d_c_Part_eq : He.DefD := ⟨("Part", some "__eq__"), "__eq__", "Part.__eq__", defArgs s_c_Part_eq, defBody s_c_Part_eq, defScope s_c_Part_eq, [], []⟩
def d_law_ : He.DefD := ⟨("law", none), "law", "law", defArgs s_law_, defBody s_law_, defScope s_law_, [], []⟩
def fn0 : List He.DefD := [d_l_start, d_p_is_list, d_p_is_name, d_p_is_integer, d_p_is_held, d_p_fits, d_p_is_step, d_p_inner_lists, d_p_first_bad, d_p_frozen_step, d_p_frozen, d_c_Part_init, d_l_draw, d_l_pick, d_l_name, d_l_names, d_l_wide_pool, d_l_listed, d_l_spoil, d_l_same] ++ [d_l_number, d_l_plain, d_l_mixed, d_l_held, d_l_plains, d_l_times, d_l_steps, d_l_test, d_l_choice, d_l_step, d_l_part, d_l_shape, d_l_lists, d_l_all, d_l_cells, d_l_words, d_c_Part_steps, d_p_all_steps, d_p_names_at, d_c_Part_cells] ++ [d_c_Part_words, d_c_Part_faults, d_c_Part_len, d_l_told, d_c_Part_eq, d_law_]
def ts0 : List He.Tab := [(fun K => He.ga K "SHAPES", ["say", "set", "add", "copy", "less", "below", "times", "fault", "catch", "last", "back", "either", "whether", "each", "hole"])]
def ex0 (K : PySem.W.Frag) : Bool := tabB K (He.ga K "SHAPES") T_SHAPES && (etupB K (He.dflAt ("all_steps", none) 0 K) && (ownB K "Part" && (true)))
abbrev SYk (w : World) (K : PySem.W.Frag) (mg : Str → Option Value) : Prop := SY fa0 fn0 ts0 ex0 w K mg
section
variable {w : World} {K : PySem.W.Frag} {mg : Str → Option Value}
theorem SY.ex_0 (S : SYk w K mg) : (tabB K (He.ga K "SHAPES") T_SHAPES) = true := And.left (He.ba S.more)
theorem SY.tab_SHAPES (S : SYk w K mg) : TabK K w (He.ga K "SHAPES") T_SHAPES := tabK_of (SY.ex_0 S) (S.tab 0)
theorem SY.ex_1 (S : SYk w K mg) : (etupB K (He.dflAt ("all_steps", none) 0 K)) = true := And.left (He.ba (And.right (He.ba S.more)))
theorem SY.dfl_all_steps (S : SYk w K mg) : ∀ Z ι, RpL K Z ι [.ref (He.dflAt ("all_steps", none) 0 K)] [.tup []] := etup_rp (SY.ex_1 S)
theorem SY.ex_2 (S : SYk w K mg) : (ownB K "Part") = true := And.left (He.ba (And.right (He.ba (And.right (He.ba S.more)))))
theorem SY.own_Part (S : SYk w K mg) : OwnC K "Part" := ownC_of (SY.ex_2 S) (S.cls 1)
theorem SY.isi_Part (S : SYk w K mg) : IsiS K [.ref (He.ga K "Part")] isC_Part := isiS_C (SY.own_Part S)
theorem SY.eqOk_Part {X : Cx} (hK : X.K = K) (S : SYk w K mg) : EqOk X "Part" okE_Part := eqOk_C (by rw [hK]; exact SY.own_Part S)
theorem SY.ne_Part (S : SYk w K mg) : PySem.W.findIn K (.ref (He.ga K "Part")) "__ne__" = some (some (.builtin "object.__ne__")) := (SY.own_Part S).ne
theorem SY.mro_Part (S : SYk w K mg) : PySem.W.mroIn K (He.ga K "Part") (.type "object") = some true := (SY.own_Part S).ok.5
end
end MP

set_option Elab.async false
set_option linter.all false
set_option maxRecDepth 100000
set_option maxHeartbeats 8000000
namespace MP
open PySem L2
section
variable {P : Program} {w : World} {K : PySem.W.Frag} {mg : Str → Option Value}
theorem ok_l_start (S : SYk w K mg) (base : Heap) : OkF P w K mg base (1) (He.fAd K ("_law_start", none)) ["_law_script"] [] l_start := by
  obtain ⟨fd, F⟩ := S.def_ 0 (d := d_l_start)
  exact okF (N := ["_law_script"]) rfl F sc_l_start (by decide) (fun _ _ _ _ _ _ us hl => match us, hl with | [_], _ => rfl) (fun cdv A outer s H E cx =>
    sb_one (ss_ret (sd_lstB (sa_cons (sd_callTy call_list_of cs_listB (S.free 2) (by rfl) (sa_cons (sd_var 0) (sa_nil))) (sa_cons (sd_int) (sa_cons (sd_int) (sa_cons (sd_int) (sa_nil))))))))
theorem ok_p_is_list (S : SYk w K mg) (base : Heap) : OkF P w K mg base (1) (He.fAd K ("is_list", none)) ["thing"] [] p_is_list := by
  obtain ⟨fd, F⟩ := S.def_ 1 (d := d_p_is_list)
  exact okF (N := ["thing"]) rfl F sc_p_is_list (by decide) (fun _ _ _ _ _ _ us hl => match us, hl with | [_], _ => rfl) (fun cdv A outer s H E cx =>
    sb_one (ss_ret (sd_isi2 (.ty "list") (.ty "tuple") (isiS_B ["list", "tuple"] (by decide)) (sd_var 0) (pe_bltn rfl (S.free 2) (by rfl) rfl) (pe_bltn rfl (S.free 3) (by rfl) rfl) (S.free 4))))
theorem ok_p_is_name (S : SYk w K mg) (base : Heap) : OkF P w K mg base (1) (He.fAd K ("is_name", none)) ["thing"] [] p_is_name := by
  obtain ⟨fd, F⟩ := S.def_ 2 (d := d_p_is_name)
  exact okF (N := ["thing", "sign"]) rfl F sc_p_is_name (by decide) (fun _ _ _ _ _ _ us hl => match us, hl with | [_], _ => rfl) (fun cdv A outer s H E cx =>
    sb_one (ss_ret (sd_and (sd_isi (.ty "str") (isiS_B ["str"] (by decide)) (sd_var 0) (pe_bltn rfl (S.free 5) (by rfl) rfl) (S.free 4)) (sd_and (sd_chain op_le op_le (sd_int) (sd_callB call_len cs_len (S.free 6) boot_len (sa_cons (sd_var 0) (sa_nil))) (sd_int)) (sd_one (sd_callB (cr_all rfl) cs_all (S.free 8) (by rfl) (sa_cons (sd_lc (own := [("sign", 1)]) sc_p_is_name.nd (si_seq (sd_var 0)) (blkOk_by (N := ["thing", "sign"]) (sc := defScope s_p_is_name) (by decide +kernel)) (fun _ _ _ _ _ => pg_name (i := 1) sc_p_is_name.nd rfl (Or.inl rfl)) (gok_name (by decide)) (fun _ _ _ _ _ => sts_nil) (fun _ _ _ _ _ => sd_cmp op_inM os_in (sd_var 1) ((sd_globS (S.str 7))))) (sa_nil))))))))
theorem ok_p_is_integer (S : SYk w K mg) (base : Heap) : OkF P w K mg base (1) (He.fAd K ("is_integer", none)) ["thing"] [] p_is_integer := by
  obtain ⟨fd, F⟩ := S.def_ 3 (d := d_p_is_integer)
  exact okF (N := ["thing"]) rfl F sc_p_is_integer (by decide) (fun _ _ _ _ _ _ us hl => match us, hl with | [_], _ => rfl) (fun cdv A outer s H E cx =>
    sb_one (ss_ret (sd_and (sd_isi (.ty "int") (isiS_B ["int"] (by decide)) (sd_var 0) (pe_bltn rfl (S.free 9) (by rfl) rfl) (S.free 4)) (sd_one (sd_not (sd_isi (.ty "bool") (isiS_B ["bool"] (by decide)) (sd_var 0) (pe_bltn rfl (S.free 10) (by rfl) rfl) (S.free 4)))))))
theorem ok_p_is_held (S : SYk w K mg) (base : Heap) : OkF P w K mg base (2) (He.fAd K ("is_held", none)) ["thing"] [] p_is_held := by
  obtain ⟨fd, F⟩ := S.def_ 4 (d := d_p_is_held)
  exact okF (N := ["thing", "cell"]) rfl F sc_p_is_held (by decide) (fun _ _ _ _ _ _ us hl => match us, hl with | [_], _ => rfl) (fun cdv A outer s H E cx =>
    sb_cons (ss_if (st_w (sw_or (st_not (st_val (sd_callO (ok_p_is_list S base) cx.room (by omega) cx.hG (S.glo 11) cx.tk (sa_cons (sd_var 0) (sa_nil)) (mCons_len mNil_len)))) (sw_or1 (st_not (st_val (sd_callB (cr_all rfl) cs_all (S.free 8) (by rfl) (sa_cons (sd_lc (own := [("cell", 1)]) sc_p_is_held.nd (si_seq (sd_var 0)) (blkOk_by (N := ["thing", "cell"]) (sc := defScope s_p_is_held) (by decide +kernel)) (fun _ _ _ _ _ => pg_name (i := 1) sc_p_is_held.nd rfl (Or.inl rfl)) (gok_name (by decide)) (fun _ _ _ _ _ => sts_nil) (fun _ _ _ _ _ => sd_callO (ok_p_is_name S base) cx.room (by omega) cx.hG (S.glo 12) takes0 (sa_cons (sd_var 1) (sa_nil)) (mCons_len mNil_len))) (sa_nil)))))))) (sb_one (ss_ret (sd_bl))) (sb_nil))
      (sb_one (ss_ret (sd_cmp (op_eqD cx.room.units) os_eq (sd_lenSet rfl (S.free 13) (S.free 6) (sd_var 0)) (sd_callB call_len cs_len (S.free 6) boot_len (sa_cons (sd_var 0) (sa_nil)))))))
theorem ok_p_fits (S : SYk w K mg) (base : Heap) : OkF P w K mg base (3) (He.fAd K ("fits", none)) ["thing", "kind"] [] p_fits := by
  obtain ⟨fd, F⟩ := S.def_ 5 (d := d_p_fits)
  exact okF (N := ["thing", "kind"]) rfl F sc_p_fits (by decide) (fun _ _ _ _ _ _ us hl => match us, hl with | [_, _], _ => rfl) (fun cdv A outer s H E cx =>
    sb_cons (ss_if (st_w (sw_or (st_cmp (op_eqD cx.room.units) os_eq (sd_var 1) (sd_str)) (sw_or1 (st_cmp (op_eqD cx.room.units) os_eq (sd_var 1) (sd_str))))) (sb_one (ss_ret (sd_callO (ok_p_is_name S base) cx.room (by omega) cx.hG (S.glo 12) cx.tk (sa_cons (sd_var 0) (sa_nil)) (mCons_len mNil_len)))) (sb_nil))
      (sb_cons (ss_if (st_cmp (op_eqD cx.room.units) os_eq (sd_var 1) (sd_str)) (sb_one (ss_ret (sd_and (sd_callO (ok_p_is_name S base) cx.room (by omega) cx.hG (S.glo 12) cx.tk (sa_cons (sd_var 0) (sa_nil)) (mCons_len mNil_len)) (sd_one (sd_cmp (op_neD cx.room.units) os_ne (sd_var 0) (sd_str)))))) (sb_nil))
      (sb_cons (ss_if (st_cmp (op_eqD cx.room.units) os_eq (sd_var 1) (sd_str)) (sb_one (ss_ret (sd_callO (ok_p_is_integer S base) cx.room (by omega) cx.hG (S.glo 14) cx.tk (sa_cons (sd_var 0) (sa_nil)) (mCons_len mNil_len)))) (sb_nil))
      (sb_cons (ss_if (st_cmp (op_eqD cx.room.units) os_eq (sd_var 1) (sd_str)) (sb_one (ss_ret (sd_and (sd_callO (ok_p_is_integer S base) cx.room (by omega) cx.hG (S.glo 14) cx.tk (sa_cons (sd_var 0) (sa_nil)) (mCons_len mNil_len)) (sd_one (sd_chain op_le op_le (sd_int) (sd_var 0) (sd_int)))))) (sb_nil))
      (sb_cons (ss_if (st_cmp (op_eqD cx.room.units) os_eq (sd_var 1) (sd_str)) (sb_one (ss_ret (sd_callO (ok_p_is_held S base) cx.room (by omega) cx.hG (S.glo 15) cx.tk (sa_cons (sd_var 0) (sa_nil)) (mCons_len mNil_len)))) (sb_nil))
      (sb_one (ss_ret (sd_callO (ok_p_is_list S base) cx.room (by omega) cx.hG (S.glo 11) cx.tk (sa_cons (sd_var 0) (sa_nil)) (mCons_len mNil_len)))))))))
theorem ok_p_is_step (S : SYk w K mg) (base : Heap) : OkF P w K mg base (4) (He.fAd K ("is_step", none)) ["thing"] [] p_is_step := by
  obtain ⟨fd, F⟩ := S.def_ 6 (d := d_p_is_step)
  exact okF (N := ["thing", "shape", "one", "kind"]) rfl F sc_p_is_step (by decide) (fun _ _ _ _ _ _ us hl => match us, hl with | [_], _ => rfl) (fun cdv A outer s H E cx =>
    sb_cons (ss_if (st_w (sw_or (st_not (st_val (sd_callO (ok_p_is_list S base) cx.room (by omega) cx.hG (S.glo 11) cx.tk (sa_cons (sd_var 0) (sa_nil)) (mCons_len mNil_len)))) (sw_or (st_cmp (op_eqD cx.room.units) os_eq (sd_callB call_len cs_len (S.free 6) boot_len (sa_cons (sd_var 0) (sa_nil))) (sd_int)) (sw_or (st_not (st_val (sd_isi (.ty "str") (isiS_B ["str"] (by decide)) (sd_ix ix_seq os_ix (sd_var 0) (sd_int)) (pe_bltn rfl (S.free 5) (by rfl) rfl) (S.free 4)))) (sw_or1 ((st_tabNotIn S.tab_SHAPES (sd_ix ix_seq os_ix (sd_var 0) (sd_int)) (pe_glob rfl (S.glo 16) rfl)))))))) (sb_one (ss_ret (sd_bl))) (sb_nil))
      (sb_cons (ss_set (i := 1) sc_p_is_step.nd (sd_tab S.tab_SHAPES (sd_ix ix_seq os_ix (sd_var 0) (sd_int)) (pe_glob rfl (S.glo 16) rfl)))
      (sb_one (ss_ret (sd_and (sd_cmp (op_eqD cx.room.units) os_eq (sd_callB call_len cs_len (S.free 6) boot_len (sa_cons (sd_var 0) (sa_nil))) (sd_bin op_addM os_add (sd_callB call_len cs_len (S.free 6) boot_len (sa_cons (sd_var 1) (sa_nil))) (sd_int))) (sd_one (sd_callB (cr_all rfl) cs_all (S.free 8) (by rfl) (sa_cons (sd_lc (own := [("one", 2), ("kind", 3)]) sc_p_is_step.nd (si_zip (S.free 17) (sa_cons (sd_slice (sd_var 0) (so_some (sd_int)) (so_none)) (sa_cons (sd_var 1) (sa_nil)))) (blkOk_by (N := ["thing", "shape", "one", "kind"]) (sc := defScope s_p_is_step) (by decide +kernel)) (fun _ _ _ _ _ => pg_tup rfl (pgs_cons (pg_name (i := 2) sc_p_is_step.nd rfl (Or.inl rfl)) (pgs_cons (pg_name (i := 3) sc_p_is_step.nd rfl (Or.inl rfl)) (pgs_nil)))) (gok_tup (gok_cons (gok_name (by decide)) (gok_cons (gok_name (by decide)) (gok_nil) gmName_sto) gmName_sto) (gmCons_len (gmCons_len gmNil_len gmName_noex) gmName_noex)) (fun _ _ _ _ _ => sts_nil) (fun _ _ _ _ _ => sd_callO (ok_p_fits S base) cx.room (by omega) cx.hG (S.glo 18) takes0 (sa_cons (sd_var 2) (sa_cons (sd_var 3) (sa_nil))) (mCons_len (mCons_len mNil_len)))) (sa_nil)))))))))
theorem ok_p_inner_lists (S : SYk w K mg) (base : Heap) : OkF P w K mg base (1) (He.fAd K ("inner_lists", none)) ["step"] [] p_inner_lists := by
  obtain ⟨fd, F⟩ := S.def_ 7 (d := d_p_inner_lists)
  exact okF (N := ["step", "one", "kind"]) rfl F sc_p_inner_lists (by decide) (fun _ _ _ _ _ _ us hl => match us, hl with | [_], _ => rfl) (fun cdv A outer s H E cx =>
    sb_one (ss_ret (sd_lc (own := [("one", 1), ("kind", 2)]) sc_p_inner_lists.nd (si_zip (S.free 17) (sa_cons (sd_slice (sd_var 0) (so_some (sd_int)) (so_none)) (sa_cons (sd_tab S.tab_SHAPES (sd_ix ix_seq os_ix (sd_var 0) (sd_int)) (pe_glob rfl (S.glo 16) rfl)) (sa_nil)))) (blkOk_by (N := ["step", "one", "kind"]) (sc := defScope s_p_inner_lists) (by decide +kernel)) (fun _ _ _ _ _ => pg_tup rfl (pgs_cons (pg_name (i := 1) sc_p_inner_lists.nd rfl (Or.inl rfl)) (pgs_cons (pg_name (i := 2) sc_p_inner_lists.nd rfl (Or.inl rfl)) (pgs_nil)))) (gok_tup (gok_cons (gok_name (by decide)) (gok_cons (gok_name (by decide)) (gok_nil) gmName_sto) gmName_sto) (gmCons_len (gmCons_len gmNil_len gmName_noex) gmName_noex)) (fun _ _ _ _ _ => sts_one (st_cmp (op_eqD cx.room.units) os_eq (sd_var 2) (sd_str))) (fun _ _ _ _ _ => sd_var 1))))
theorem ok_p_first_bad (S : SYk w K mg) (base : Heap) : ∀ n : Nat, OkF P w K mg base (5 + 2 * n) (He.fAd K ("first_bad", none)) ["steps", "path"] [] (p_first_bad n)
  | 0 => by
    obtain ⟨fd, F⟩ := S.def_ 8 (d := d_p_first_bad)
    have b := F.bindsN (ps := ["steps", "path"]) (fun _ _ _ _ _ _ us hl => match us, hl with | [_, _], _ => rfl)
    exact okF_halt (fun _ _ => rfl) ⟨fd, F.kp, b, [], .nil, b⟩
  | n + 1 => by
    have ih_p_first_bad := ok_p_first_bad S base n
    obtain ⟨fd, F⟩ := S.def_ 8 (d := d_p_first_bad)
    exact okF (k := 5 + 2 * n + 1) (N := ["steps", "path", "at", "thing", "here", "branch", "inner", "found"]) rfl F sc_p_first_bad (by decide) (fun _ _ _ _ _ _ us hl => match us, hl with | [_, _], _ => rfl) (fun cdv A outer s H E cx =>
      sb_cons (ss_for cx.own rfl (si_enum (S.free 19) (sa_cons (sd_var 0) (sa_nil))) (sg_tup rfl (sgs_cons (sg_name (i := 2) sc_p_first_bad.nd) (sgs_cons (sg_name (i := 3) sc_p_first_bad.nd) (sgs_nil) (hw := gmName_noex) (hw2 := gmNil_noex)) (hw := gmName_noex) (hw2 := (gmCons_noex gmName_noex gmNil_noex))) (gmCons_len (gmCons_len gmNil_len gmName_noex) gmName_noex)) (sb_cons (ss_set (i := 4) sc_p_first_bad.nd (sd_tup (sa_star (sd_var 1) (sa_cons (sd_var 2) (sa_nil)))))
      (sb_cons (ss_if (st_not (st_val (sd_callO (ok_p_is_step S base) cx.room (by omega) cx.hG (S.glo 20) cx.tk (sa_cons (sd_var 3) (sa_nil)) (mCons_len mNil_len)))) (sb_one (ss_ret (sd_var 4))) (sb_nil))
      (sb_one (ss_for cx.own rfl (si_enum (S.free 19) (sa_cons (sd_callO (ok_p_inner_lists S base) cx.room (by omega) cx.hG (S.glo 21) cx.tk (sa_cons (sd_var 3) (sa_nil)) (mCons_len mNil_len)) (sa_nil))) (sg_tup rfl (sgs_cons (sg_name (i := 5) sc_p_first_bad.nd) (sgs_cons (sg_name (i := 6) sc_p_first_bad.nd) (sgs_nil) (hw := gmName_noex) (hw2 := gmNil_noex)) (hw := gmName_noex) (hw2 := (gmCons_noex gmName_noex gmNil_noex))) (gmCons_len (gmCons_len gmNil_len gmName_noex) gmName_noex)) (sb_cons (ss_set (i := 7) sc_p_first_bad.nd (sd_callO (ih_p_first_bad) cx.room (by omega) cx.hG (S.glo 22) cx.tk (sa_cons (sd_var 6) (sa_cons (sd_tup (sa_star (sd_var 4) (sa_cons (sd_var 5) (sa_nil)))) (sa_nil))) (mCons_len (mCons_len mNil_len))))
      (sb_one (ss_if (st_cmp op_notN os_notN (sd_var 7) (sd_non)) (sb_one (ss_ret (sd_var 7))) (sb_nil)))) (gmTup_noex (gmCons_noex gmName_noex (gmCons_noex gmName_noex gmNil_noex))))))) (gmTup_noex (gmCons_noex gmName_noex (gmCons_noex gmName_noex gmNil_noex))))
      (sb_one (ss_ret (sd_non))))
theorem okm_p_frozen_step_p_frozen (S : SYk w K mg) (base : Heap) : ∀ n : Nat, (OkF P w K mg base (1 + 2 * n) (He.fAd K ("frozen_step", none)) ["step"] [] (p_frozen_step n)) ∧ (OkF P w K mg base (1 + 2 * n) (He.fAd K ("frozen", none)) ["steps"] [] (p_frozen n))
  | 0 => by
    refine ⟨?_, ?_⟩
    · obtain ⟨fd, F⟩ := S.def_ 9 (d := d_p_frozen_step)
      have b := F.bindsN (ps := ["step"]) (fun _ _ _ _ _ _ us hl => match us, hl with | [_], _ => rfl)
      exact okF_halt (fun _ _ => rfl) ⟨fd, F.kp, b, [], .nil, b⟩
    · obtain ⟨fd, F⟩ := S.def_ 10 (d := d_p_frozen)
      have b := F.bindsN (ps := ["steps"]) (fun _ _ _ _ _ _ us hl => match us, hl with | [_], _ => rfl)
      exact okF_halt (fun _ _ => rfl) ⟨fd, F.kp, b, [], .nil, b⟩
  | n + 1 => by
    obtain ⟨ih_p_frozen_step, ih_p_frozen⟩ := okm_p_frozen_step_p_frozen S base n
    refine ⟨?_, ?_⟩
    · obtain ⟨fd, F⟩ := S.def_ 9 (d := d_p_frozen_step)
      exact okF (k := 1 + 2 * n + 1) (N := ["step", "parts", "one", "kind"]) rfl F sc_p_frozen_step (by decide) (fun _ _ _ _ _ _ us hl => match us, hl with | [_], _ => rfl) (fun cdv A outer s H E cx =>
        sb_cons (ss_set (i := 1) sc_p_frozen_step.nd (sd_lstB (sa_nil)))
      (sb_cons (ss_for cx.own rfl (si_zip (S.free 17) (sa_cons (sd_slice (sd_var 0) (so_some (sd_int)) (so_none)) (sa_cons (sd_tab S.tab_SHAPES (sd_ix ix_seq os_ix (sd_var 0) (sd_int)) (pe_glob rfl (S.glo 16) rfl)) (sa_nil)))) (sg_tup rfl (sgs_cons (sg_name (i := 2) sc_p_frozen_step.nd) (sgs_cons (sg_name (i := 3) sc_p_frozen_step.nd) (sgs_nil) (hw := gmName_noex) (hw2 := gmNil_noex)) (hw := gmName_noex) (hw2 := (gmCons_noex gmName_noex gmNil_noex))) (gmCons_len (gmCons_len gmNil_len gmName_noex) gmName_noex)) (sb_one (ss_if (st_cmp (op_eqD cx.room.units) os_eq (sd_var 3) (sd_str)) (sb_one (ss_expr (sd_bm PySem.F.plainAttrs_list PySem.F.slot_list_append PySem.F.type_list_append mt_append ty_list ms_append (sd_var 1) (sa_cons (sd_callO (ih_p_frozen) cx.room (by omega) cx.hG (S.glo 23) cx.tk (sa_cons (sd_var 2) (sa_nil)) (mCons_len mNil_len)) (sa_nil))))) (sb_one (ss_if (st_cmp (op_eqD cx.room.units) os_eq (sd_var 3) (sd_str)) (sb_one (ss_expr (sd_bm PySem.F.plainAttrs_list PySem.F.slot_list_append PySem.F.type_list_append mt_append ty_list ms_append (sd_var 1) (sa_cons (sd_callTy call_tuple_of cs_tuple (S.free 3) (by rfl) (sa_cons (sd_var 2) (sa_nil))) (sa_nil))))) (sb_one (ss_expr (sd_bm PySem.F.plainAttrs_list PySem.F.slot_list_append PySem.F.type_list_append mt_append ty_list ms_append (sd_var 1) (sa_cons (sd_var 2) (sa_nil))))))))) (gmTup_noex (gmCons_noex gmName_noex (gmCons_noex gmName_noex gmNil_noex))))
      (sb_one (ss_ret (sd_tup (sa_cons (sd_ix ix_seq os_ix (sd_var 0) (sd_int)) (sa_star (sd_var 1) (sa_nil))))))))
    · obtain ⟨fd, F⟩ := S.def_ 10 (d := d_p_frozen)
      exact okF (k := 1 + 2 * n + 1) (N := ["steps", "step"]) rfl F sc_p_frozen (by decide) (fun _ _ _ _ _ _ us hl => match us, hl with | [_], _ => rfl) (fun cdv A outer s H E cx =>
        sb_one (ss_ret (sd_callTy call_tuple_of cs_tuple (S.free 3) (by rfl) (sa_cons (sd_lc (own := [("step", 1)]) sc_p_frozen.nd (si_seq (sd_var 0)) (blkOk_by (N := ["steps", "step"]) (sc := defScope s_p_frozen) (by decide +kernel)) (fun _ _ _ _ _ => pg_name (i := 1) sc_p_frozen.nd rfl (Or.inl rfl)) (gok_name (by decide)) (fun _ _ _ _ _ => sts_nil) (fun _ _ _ _ _ => sd_callO (ih_p_frozen_step) cx.room (by omega) cx.hG (S.glo 24) takes0 (sa_cons (sd_var 1) (sa_nil)) (mCons_len mNil_len))) (sa_nil)))))
theorem ok_p_frozen_step (S : SYk w K mg) (base : Heap) (n : Nat) : OkF P w K mg base (1 + 2 * n) (He.fAd K ("frozen_step", none)) ["step"] [] (p_frozen_step n) := (okm_p_frozen_step_p_frozen S base n).1
theorem ok_p_frozen (S : SYk w K mg) (base : Heap) (n : Nat) : OkF P w K mg base (1 + 2 * n) (He.fAd K ("frozen", none)) ["steps"] [] (p_frozen n) := (okm_p_frozen_step_p_frozen S base n).2
theorem ok_c_Part_init (S : SYk w K mg) (base : Heap) : OkF P w K mg base (46) (He.fAd K ("Part", some "__init__")) ["self", "steps"] [] c_Part_init := by
  obtain ⟨fd, F⟩ := S.def_ 11 (d := d_c_Part_init)
  exact okF (N := ["self", "steps", "path"]) rfl F sc_c_Part_init (by decide) (fun _ _ _ _ _ _ us hl => match us, hl with | [_, _], _ => rfl) (fun cdv A outer s H E cx =>
    sb_cons (ss_set (i := 2) sc_c_Part_init.nd (sd_callO (ok_p_first_bad S base 20) cx.room (by omega) cx.hG (S.glo 22) cx.tk (sa_cons (sd_var 1) (sa_cons (sd_tup (sa_nil)) (sa_nil))) (mCons_len (mCons_len mNil_len))))
      (sb_cons (ss_if (st_cmp op_notN os_notN (sd_var 2) (sd_non)) (sb_one (ss_halt)) (sb_nil))
      (sb_one (ss_fld (S.cls 1) (S.noat 25) (sd_var 0) (sd_callO (ok_p_frozen S base 20) cx.room (by omega) cx.hG (S.glo 23) cx.tk (sa_cons (sd_var 1) (sa_nil)) (mCons_len mNil_len))))))
theorem ok_l_draw (S : SYk w K mg) (base : Heap) : OkF P w K mg base (1) (He.fAd K ("_law_draw", none)) ["_law_stream", "_law_many"] [] l_draw := by
  obtain ⟨fd, F⟩ := S.def_ 12 (d := d_l_draw)
  exact okF (N := ["_law_stream", "_law_many", "_law_mixed_here", "_law_digit"]) rfl F sc_l_draw (by decide) (fun _ _ _ _ _ _ us hl => match us, hl with | [_, _], _ => rfl) (fun cdv A outer s H E cx =>
    sb_cons (ss_asg (sd_bin op_addM os_add (sd_ix ix_seq os_ix (sd_var 0) (sd_int)) (sd_int)) (sg_sub (pg_sub (sd_var 0) (sd_int) set_list (by intro _; rfl))) gmSub_noex)
      (sb_cons (ss_if (st_w (sw_and (st_cmp (op_eqD cx.room.units) os_eq (sd_ix ix_seq os_ix (sd_var 0) (sd_int)) (sd_int)) (sw_and1 (st_cmp (op_neD cx.room.units) os_ne (sd_ix ix_seq os_ix (sd_var 0) (sd_int)) (sd_lst (sa_nil)))))) (sb_cons (ss_asg (sd_bm PySem.F.plainAttrs_list PySem.F.slot_list_pop PySem.F.type_list_pop mt_popAt ty_list ms_popAt (sd_ix ix_seq os_ix (sd_var 0) (sd_int)) (sa_cons (sd_int) (sa_nil))) (sg_sub (pg_sub (sd_var 0) (sd_int) set_list (by intro _; rfl))) gmSub_noex)
      (sb_one (ss_if (st_cmp op_lt os_lt (sd_ix ix_seq os_ix (sd_var 0) (sd_int)) (sd_bin op_pow os_pow (sd_int) (sd_int))) (sb_cons (ss_asg (sd_bin op_mod os_mod (sd_callTy call_int1 cs_int (S.free 9) (by rfl) (sa_cons (sd_bin op_addM os_add (sd_bin op_addM os_add (sd_bin op_mul os_mul (sd_ix ix_seq os_ix (sd_var 0) (sd_int)) (sd_int)) (sd_ix ix_seq os_ix (sd_var 0) (sd_int))) (sd_int)) (sa_nil))) (sd_int)) (sg_sub (pg_sub (sd_var 0) (sd_int) set_list (by intro _; rfl))) gmSub_noex)
      (sb_one (ss_asg (sd_int) (sg_sub (pg_sub (sd_var 0) (sd_int) set_list (by intro _; rfl))) gmSub_noex))) (sb_nil)))) (sb_nil))
      (sb_cons (ss_if (st_cmp op_gt os_gt (sd_ix ix_seq os_ix (sd_var 0) (sd_int)) (sd_int)) (sb_cons (ss_set (i := 3) sc_l_draw.nd (sd_bin op_mod os_mod (sd_callTy call_int1 cs_int (S.free 9) (by rfl) (sa_cons (sd_ix ix_seq os_ix (sd_var 0) (sd_int)) (sa_nil))) (sd_var 1)))
      (sb_cons (ss_asg (sd_bin op_fdiv os_div (sd_ix ix_seq os_ix (sd_var 0) (sd_int)) (sd_var 1)) (sg_sub (pg_sub (sd_var 0) (sd_int) set_list (by intro _; rfl))) gmSub_noex)
      (sb_one (ss_ret (sd_var 3))))) (sb_nil))
      (sb_cons (ss_set (i := 2) sc_l_draw.nd (sd_bin op_mod os_mod (sd_bin op_pow os_pow (sd_bin op_addM os_add (sd_bin op_addM os_add (sd_ix ix_seq os_ix (sd_var 0) (sd_int)) (sd_bin op_mul os_mul (sd_int) (sd_ix ix_seq os_ix (sd_var 0) (sd_int)))) (sd_int)) (sd_int)) (sd_int)))
      (sb_one (ss_ret (sd_bin op_mod os_mod (sd_bin op_mod os_mod (sd_bin op_pow os_pow (sd_bin op_addM os_add (sd_bin op_addM os_add (sd_bin op_mul os_mul (sd_var 2) (sd_int)) (sd_bin op_mul os_mul (sd_bin op_mul os_mul (sd_int) (sd_ix ix_seq os_ix (sd_var 0) (sd_int))) (sd_ix ix_seq os_ix (sd_var 0) (sd_int)))) (sd_int)) (sd_int)) (sd_int)) (sd_var 1))))))))
end
end MP

set_option Elab.async false
set_option linter.all false
set_option maxRecDepth 100000
set_option maxHeartbeats 8000000
namespace MP
open PySem L2
section
variable {P : Program} {w : World} {K : PySem.W.Frag} {mg : Str → Option Value}
theorem ok_l_pick (S : SYk w K mg) (base : Heap) : OkF P w K mg base (2) (He.fAd K ("_law_pick", none)) ["_law_stream", "_law_some"] [] l_pick := by
  obtain ⟨fd, F⟩ := S.def_ 13 (d := d_l_pick)
  exact okF (N := ["_law_stream", "_law_some"]) rfl F sc_l_pick (by decide) (fun _ _ _ _ _ _ us hl => match us, hl with | [_, _], _ => rfl) (fun cdv A outer s H E cx =>
    sb_one (ss_ret (sd_ix ix_seq os_ix (sd_var 1) (sd_callO (ok_l_draw S base) cx.room (by omega) cx.hG (S.glo 26) cx.tk (sa_cons (sd_var 0) (sa_cons (sd_callB call_len cs_len (S.free 6) boot_len (sa_cons (sd_var 1) (sa_nil))) (sa_nil))) (mCons_len (mCons_len mNil_len))))))
theorem ok_l_name (S : SYk w K mg) (base : Heap) : OkF P w K mg base (3) (He.fAd K ("_law_name", none)) ["_law_stream"] [] l_name := by
  obtain ⟨fd, F⟩ := S.def_ 14 (d := d_l_name)
  exact okF (N := ["_law_stream", "_law_size", "_law_k"]) rfl F sc_l_name (by decide) (fun _ _ _ _ _ _ us hl => match us, hl with | [_], _ => rfl) (fun cdv A outer s H E cx =>
    sb_cons (ss_set (i := 1) sc_l_name.nd (sd_ix ix_seq os_ix (sd_lst (sa_cons (sd_int) (sa_cons (sd_int) (sa_cons (sd_int) (sa_cons (sd_int) (sa_cons (sd_int) (sa_cons (sd_int) (sa_nil)))))))) (sd_callO (ok_l_draw S base) cx.room (by omega) cx.hG (S.glo 26) cx.tk (sa_cons (sd_var 0) (sa_cons (sd_int) (sa_nil))) (mCons_len (mCons_len mNil_len)))))
      (sb_one (ss_ret (sd_bm PySem.F.plainAttrs_str PySem.F.slot_str_join PySem.F.type_str_join mt_join ty_str ms_join (sd_str) (sa_cons (sd_lc (own := [("_law_k", 2)]) sc_l_name.nd (si_range (S.free 27) (sa_cons (sd_var 1) (sa_nil))) (blkOk_by (N := ["_law_stream", "_law_size", "_law_k"]) (sc := defScope s_l_name) (by decide +kernel)) (fun _ _ _ _ _ => pg_name (i := 2) sc_l_name.nd rfl (Or.inl rfl)) (gok_name (by decide)) (fun _ _ _ _ _ => sts_nil) (fun _ _ _ _ _ => sd_callO (ok_l_pick S base) cx.room (by omega) cx.hG (S.glo 28) takes0 (sa_cons (sd_var 0) (sa_cons (sd_str) (sa_nil))) (mCons_len (mCons_len mNil_len)))) (sa_nil))))))
theorem ok_l_names (S : SYk w K mg) (base : Heap) : OkF P w K mg base (4) (He.fAd K ("_law_names", none)) ["_law_stream", "_law_many"] [] l_names := by
  obtain ⟨fd, F⟩ := S.def_ 15 (d := d_l_names)
  exact okF (N := ["_law_stream", "_law_many", "_law_names_here", "_law_k", "_law_name_here", "_law_spare", "_law_letter", "_law_one"]) rfl F sc_l_names (by decide) (fun _ _ _ _ _ _ us hl => match us, hl with | [_, _], _ => rfl) (fun cdv A outer s H E cx =>
    sb_cons (ss_set (i := 2) sc_l_names.nd (sd_lstB (sa_nil)))
      (sb_cons (ss_for cx.own rfl (si_range (S.free 27) (sa_cons (sd_var 1) (sa_nil))) (sg_name (i := 3) sc_l_names.nd) (sb_cons (ss_set (i := 4) sc_l_names.nd (sd_callO (ok_l_name S base) cx.room (by omega) cx.hG (S.glo 29) cx.tk (sa_cons (sd_var 0) (sa_nil)) (mCons_len mNil_len)))
      (sb_cons (ss_set (i := 5) sc_l_names.nd (sd_bin op_addM os_add (sd_lst (sa_cons (sd_var 4) (sa_nil))) (sd_lc (own := [("_law_letter", 6)]) sc_l_names.nd (si_seq (sd_str)) (blkOk_by (N := ["_law_stream", "_law_many", "_law_names_here", "_law_k", "_law_name_here", "_law_spare", "_law_letter", "_law_one"]) (sc := defScope s_l_names) (by decide +kernel)) (fun _ _ _ _ _ => pg_name (i := 6) sc_l_names.nd rfl (Or.inl rfl)) (gok_name (by decide)) (fun _ _ _ _ _ => sts_nil) (fun _ _ _ _ _ => sd_bin op_addM os_add (sd_bin op_addM os_add (sd_var 6) (sd_str)) (sd_var 6)))))
      (sb_one (ss_expr (sd_bm PySem.F.plainAttrs_list PySem.F.slot_list_append PySem.F.type_list_append mt_append ty_list ms_append (sd_var 2) (sa_cons (sd_ix ix_seq os_ix (sd_lc (own := [("_law_one", 7)]) sc_l_names.nd (si_seq (sd_var 5)) (blkOk_by (N := ["_law_stream", "_law_many", "_law_names_here", "_law_k", "_law_name_here", "_law_spare", "_law_letter", "_law_one"]) (sc := defScope s_l_names) (by decide +kernel)) (fun _ _ _ _ _ => pg_name (i := 7) sc_l_names.nd rfl (Or.inl rfl)) (gok_name (by decide)) (fun _ _ _ _ _ => sts_one (st_cmp op_notInM os_notIn (sd_var 7) (sd_var 2))) (fun _ _ _ _ _ => sd_var 7)) (sd_int)) (sa_nil))))))) gmName_noex)
      (sb_one (ss_ret (sd_var 2)))))
theorem ok_l_wide_pool (S : SYk w K mg) (base : Heap) : OkF P w K mg base (5) (He.fAd K ("_law_wide_pool", none)) ["_law_stream"] [] l_wide_pool := by
  obtain ⟨fd, F⟩ := S.def_ 16 (d := d_l_wide_pool)
  exact okF (N := ["_law_stream", "_law_odd", "_law_kind", "_law_many", "_law_pool", "_law_name_here"]) rfl F sc_l_wide_pool (by decide) (fun _ _ _ _ _ _ us hl => match us, hl with | [_], _ => rfl) (fun cdv A outer s H E cx =>
    sb_cons (ss_par (i := 3) (j := 4) sc_l_wide_pool.nd (sa_cons (sd_ix ix_seq os_ix (sd_lst (sa_cons (sd_int) (sa_cons (sd_int) (sa_cons (sd_int) (sa_cons (sd_int) (sa_nil)))))) (sd_callO (ok_l_draw S base) cx.room (by omega) cx.hG (S.glo 26) cx.tk (sa_cons (sd_var 0) (sa_cons (sd_int) (sa_nil))) (mCons_len (mCons_len mNil_len)))) (sa_cons (sd_dnew) (sa_nil))))
      (sb_cons (ss_set (i := 1) sc_l_wide_pool.nd (sd_lst (sa_cons (sd_str) (sa_cons (sd_str) (sa_cons (sd_str) (sa_cons (sd_str) (sa_cons (sd_str) (sa_cons (sd_str) (sa_cons (sd_str) (sa_cons (sd_str) (sa_cons (sd_str) (sa_cons (sd_str) (sa_nil)))))))))))))
      (sb_cons (ss_for cx.own rfl (si_seq (sd_tup (sa_cons (sd_str) (sa_cons (sd_str) (sa_cons (sd_str) (sa_nil)))))) (sg_name (i := 2) sc_l_wide_pool.nd) (sb_cons (ss_dput cx.room.units1 (sd_var 4) (sd_var 2) (sd_callO (ok_l_names S base) cx.room (by omega) cx.hG (S.glo 30) cx.tk (sa_cons (sd_var 0) (sa_cons (sd_if (st_cmp (op_eqD cx.room.units) os_eq (sd_var 2) (sd_str)) (sd_bin op_fdiv os_div (sd_bin op_mul os_mul (sd_var 3) (sd_int)) (sd_int)) (sd_var 3)) (sa_nil))) (mCons_len (mCons_len mNil_len))))
      (sb_cons (ss_set (i := 5) sc_l_wide_pool.nd (sd_ix ix_seq os_ix (sd_var 1) (sd_callO (ok_l_draw S base) cx.room (by omega) cx.hG (S.glo 26) cx.tk (sa_cons (sd_var 0) (sa_cons (sd_if (st_cmp (op_eqD cx.room.units) os_eq (sd_var 2) (sd_str)) (sd_int) (sd_int)) (sa_nil))) (mCons_len (mCons_len mNil_len)))))
      (sb_one (ss_if (st_w (sw_and (st_cmp (op_eqD cx.room.units) os_eq (sd_callO (ok_l_draw S base) cx.room (by omega) cx.hG (S.glo 26) cx.tk (sa_cons (sd_var 0) (sa_cons (sd_int) (sa_nil))) (mCons_len (mCons_len mNil_len))) (sd_int)) (sw_and1 (st_cmp op_notInM os_notIn (sd_var 5) (sd_dget cx.room.units1 (sd_var 4) (sd_var 2)))))) (sb_one (ss_asg (sd_var 5) (sg_sub (pg_sub (sd_dget cx.room.units1 (sd_var 4) (sd_var 2)) (sd_int) set_list (by intro _; rfl))) gmSub_noex)) (sb_nil))))) gmName_noex)
      (sb_one (ss_ret (sd_var 4))))))
theorem ok_l_listed (S : SYk w K mg) (base : Heap) : ∀ n : Nat, OkF P w K mg base (2 + 2 * n) (He.fAd K ("_law_listed", none)) ["_law_stream", "_law_thing"] [] (l_listed n)
  | 0 => by
    obtain ⟨fd, F⟩ := S.def_ 17 (d := d_l_listed)
    have b := F.bindsN (ps := ["_law_stream", "_law_thing"]) (fun _ _ _ _ _ _ us hl => match us, hl with | [_, _], _ => rfl)
    exact okF_halt (fun _ _ => rfl) ⟨fd, F.kp, b, [], .nil, b⟩
  | n + 1 => by
    have ih_l_listed := ok_l_listed S base n
    obtain ⟨fd, F⟩ := S.def_ 17 (d := d_l_listed)
    exact okF (k := 2 + 2 * n + 1) (N := ["_law_stream", "_law_thing", "_law_inner", "_law_one"]) rfl F sc_l_listed (by decide) (fun _ _ _ _ _ _ us hl => match us, hl with | [_, _], _ => rfl) (fun cdv A outer s H E cx =>
      sb_cons (ss_if (st_not (st_val (sd_isi (.ty "tuple") (isiS_B ["tuple"] (by decide)) (sd_var 1) (pe_bltn rfl (S.free 3) (by rfl) rfl) (S.free 4)))) (sb_one (ss_ret (sd_var 1))) (sb_nil))
      (sb_cons (ss_setLcB (i := 2) (own := [("_law_one", 3)]) sc_l_listed.nd (si_seq (sd_var 1)) (blkOk_by (N := ["_law_stream", "_law_thing", "_law_inner", "_law_one"]) (sc := defScope s_l_listed) (by decide +kernel)) (fun _ _ _ _ _ => pg_name (i := 3) sc_l_listed.nd rfl (Or.inl rfl)) (gok_name (by decide)) (fun _ _ _ _ _ => sts_nil) (fun _ _ _ _ _ => sd_callO (ih_l_listed) cx.room (by omega) cx.hG (S.glo 31) takes0 (sa_cons (sd_var 0) (sa_cons (sd_var 3) (sa_nil))) (mCons_len (mCons_len mNil_len))) (by rfl))
      (sb_one (ss_ret (sd_if (st_cmp (op_eqD cx.room.units) os_eq (sd_callO (ok_l_draw S base) cx.room (by omega) cx.hG (S.glo 26) cx.tk (sa_cons (sd_var 0) (sa_cons (sd_int) (sa_nil))) (mCons_len (mCons_len mNil_len))) (sd_int)) (sd_var 2) (sd_callTy call_tuple_of cs_tuple (S.free 3) (by rfl) (sa_cons (sd_var 2) (sa_nil))))))))
theorem ok_l_spoil (S : SYk w K mg) (base : Heap) : ∀ n : Nat, OkF P w K mg base (1 + 2 * n) (He.fAd K ("_law_spoil", none)) ["_law_thing"] [] (l_spoil n)
  | 0 => by
    obtain ⟨fd, F⟩ := S.def_ 18 (d := d_l_spoil)
    have b := F.bindsN (ps := ["_law_thing"]) (fun _ _ _ _ _ _ us hl => match us, hl with | [_], _ => rfl)
    exact okF_halt (fun _ _ => rfl) ⟨fd, F.kp, b, [], .nil, b⟩
  | n + 1 => by
    have ih_l_spoil := ok_l_spoil S base n
    obtain ⟨fd, F⟩ := S.def_ 18 (d := d_l_spoil)
    exact okF (k := 1 + 2 * n + 1) (N := ["_law_thing", "_law_one"]) rfl F sc_l_spoil (by decide) (fun _ _ _ _ _ _ us hl => match us, hl with | [_], _ => rfl) (fun cdv A outer s H E cx =>
      sb_cons (ss_if (st_val (sd_isi2 (.ty "list") (.ty "tuple") (isiS_B ["list", "tuple"] (by decide)) (sd_var 0) (pe_bltn rfl (S.free 2) (by rfl) rfl) (pe_bltn rfl (S.free 3) (by rfl) rfl) (S.free 4))) (sb_one (ss_for cx.own rfl (si_seq (sd_callTy call_list_of cs_list (S.free 2) (by rfl) (sa_cons (sd_var 0) (sa_nil)))) (sg_name (i := 1) sc_l_spoil.nd) (sb_one (ss_expr (sd_callO (ih_l_spoil) cx.room (by omega) cx.hG (S.glo 32) cx.tk (sa_cons (sd_var 1) (sa_nil)) (mCons_len mNil_len)))) gmName_noex)) (sb_nil))
      (sb_one (ss_if (st_val (sd_isi (.ty "list") (isiS_B ["list"] (by decide)) (sd_var 0) (pe_bltn rfl (S.free 2) (by rfl) rfl) (S.free 4))) (sb_one (ss_expr (sd_bm PySem.F.plainAttrs_list PySem.F.slot_list_append PySem.F.type_list_append mt_append ty_list ms_append (sd_var 0) (sa_cons (sd_int) (sa_nil))))) (sb_nil))))
theorem ok_l_same (S : SYk w K mg) (base : Heap) : OkF P w K mg base (1) (He.fAd K ("_law_same", none)) ["_law_found", "_law_due"] [] l_same := by
  obtain ⟨fd, F⟩ := S.def_ 19 (d := d_l_same)
  exact okF (N := ["_law_found", "_law_due"]) rfl F sc_l_same (by decide) (fun _ _ _ _ _ _ us hl => match us, hl with | [_, _], _ => rfl) (fun cdv A outer s H E cx =>
    sb_one (ss_ret (sd_cmp op_eq os_eqT (sd_callB (cr_repr cx.hG cx.room.units61) cs_repr (S.free 33) (by rfl) (sa_cons (sd_var 0) (sa_nil))) (sd_callB (cr_repr cx.hG cx.room.units61) cs_repr (S.free 33) (by rfl) (sa_cons (sd_var 1) (sa_nil))))))
theorem ok_l_number (S : SYk w K mg) (base : Heap) : OkF P w K mg base (2) (He.fAd K ("_law_number", none)) ["_law_stream"] [] l_number := by
  obtain ⟨fd, F⟩ := S.def_ 20 (d := d_l_number)
  exact okF (N := ["_law_stream", "_law_way"]) rfl F sc_l_number (by decide) (fun _ _ _ _ _ _ us hl => match us, hl with | [_], _ => rfl) (fun cdv A outer s H E cx =>
    sb_cons (ss_set (i := 1) sc_l_number.nd (sd_callO (ok_l_draw S base) cx.room (by omega) cx.hG (S.glo 26) cx.tk (sa_cons (sd_var 0) (sa_cons (sd_int) (sa_nil))) (mCons_len (mCons_len mNil_len))))
      (sb_cons (ss_if (st_cmp (op_eqD cx.room.units) os_eq (sd_var 1) (sd_int)) (sb_one (ss_ret (sd_bin op_mul os_mul (sd_ix ix_seq os_ix (sd_lst (sa_cons (sd_int) (sa_cons (sd_un un_neg us_neg (sd_int)) (sa_nil)))) (sd_callO (ok_l_draw S base) cx.room (by omega) cx.hG (S.glo 26) cx.tk (sa_cons (sd_var 0) (sa_cons (sd_int) (sa_nil))) (mCons_len (mCons_len mNil_len)))) (sd_bin op_sub os_sub (sd_bin op_sub os_sub (sd_bin op_pow os_pow (sd_int) (sd_int)) (sd_int)) (sd_callO (ok_l_draw S base) cx.room (by omega) cx.hG (S.glo 26) cx.tk (sa_cons (sd_var 0) (sa_cons (sd_int) (sa_nil))) (mCons_len (mCons_len mNil_len))))))) (sb_nil))
      (sb_one (ss_ret (sd_if (st_cmp op_lt os_lt (sd_var 1) (sd_int)) (sd_bin op_sub os_sub (sd_var 1) (sd_int)) (sd_bin op_sub os_sub (sd_var 1) (sd_int)))))))
theorem ok_l_plain (S : SYk w K mg) (base : Heap) : OkF P w K mg base (3) (He.fAd K ("_law_plain", none)) ["_law_stream", "_law_pool"] [] l_plain := by
  obtain ⟨fd, F⟩ := S.def_ 21 (d := d_l_plain)
  exact okF (N := ["_law_stream", "_law_pool", "_law_way", "_law_cell"]) rfl F sc_l_plain (by decide) (fun _ _ _ _ _ _ us hl => match us, hl with | [_, _], _ => rfl) (fun cdv A outer s H E cx =>
    sb_cons (ss_par (i := 2) (j := 3) sc_l_plain.nd (sa_cons (sd_callO (ok_l_draw S base) cx.room (by omega) cx.hG (S.glo 26) cx.tk (sa_cons (sd_var 0) (sa_cons (sd_int) (sa_nil))) (mCons_len (mCons_len mNil_len))) (sa_cons (sd_callO (ok_l_pick S base) cx.room (by omega) cx.hG (S.glo 28) cx.tk (sa_cons (sd_var 0) (sa_cons (sd_dget cx.room.units1 (sd_var 1) (sd_str)) (sa_nil))) (mCons_len (mCons_len mNil_len))) (sa_nil))))
      (sb_cons (ss_if (st_cmp op_lt os_lt (sd_var 2) (sd_int)) (sb_one (ss_ret (sd_tup (sa_cons (sd_str) (sa_cons (sd_callO (ok_l_pick S base) cx.room (by omega) cx.hG (S.glo 28) cx.tk (sa_cons (sd_var 0) (sa_cons (sd_dget cx.room.units1 (sd_var 1) (sd_str)) (sa_nil))) (mCons_len (mCons_len mNil_len))) (sa_nil)))))) (sb_nil))
      (sb_cons (ss_if (st_cmp op_lt os_lt (sd_var 2) (sd_int)) (sb_one (ss_ret (sd_tup (sa_cons (sd_ix ix_seq os_ix (sd_lst (sa_cons (sd_str) (sa_cons (sd_str) (sa_nil)))) (sd_bin op_fdiv os_div (sd_var 2) (sd_int))) (sa_cons (sd_var 3) (sa_cons (sd_callO (ok_l_number S base) cx.room (by omega) cx.hG (S.glo 34) cx.tk (sa_cons (sd_var 0) (sa_nil)) (mCons_len mNil_len)) (sa_nil))))))) (sb_nil))
      (sb_cons (ss_if (st_cmp (op_eqD cx.room.units) os_eq (sd_var 2) (sd_int)) (sb_one (ss_ret (sd_tup (sa_cons (sd_str) (sa_cons (sd_var 3) (sa_cons (sd_callO (ok_l_pick S base) cx.room (by omega) cx.hG (S.glo 28) cx.tk (sa_cons (sd_var 0) (sa_cons (sd_dget cx.room.units1 (sd_var 1) (sd_str)) (sa_nil))) (mCons_len (mCons_len mNil_len))) (sa_cons (sd_callO (ok_l_number S base) cx.room (by omega) cx.hG (S.glo 34) cx.tk (sa_cons (sd_var 0) (sa_nil)) (mCons_len mNil_len)) (sa_nil)))))))) (sb_nil))
      (sb_cons (ss_if (st_cmp (op_eqD cx.room.units) os_eq (sd_var 2) (sd_int)) (sb_one (ss_ret (sd_tup (sa_cons (sd_str) (sa_cons (sd_callO (ok_l_pick S base) cx.room (by omega) cx.hG (S.glo 28) cx.tk (sa_cons (sd_var 0) (sa_cons (sd_dget cx.room.units1 (sd_var 1) (sd_str)) (sa_nil))) (mCons_len (mCons_len mNil_len))) (sa_nil)))))) (sb_nil))
      (sb_one (ss_ret (sd_if (st_cmp (op_eqD cx.room.units) os_eq (sd_var 2) (sd_int)) (sd_tup (sa_cons (sd_str) (sa_nil))) (sd_tup (sa_cons (sd_str) (sa_nil)))))))))))
theorem ok_l_mixed (S : SYk w K mg) (base : Heap) : OkF P w K mg base (2) (He.fAd K ("_law_mixed", none)) ["_law_stream", "_law_some"] [] l_mixed := by
  obtain ⟨fd, F⟩ := S.def_ 22 (d := d_l_mixed)
  exact okF (N := ["_law_stream", "_law_some", "_law_left", "_law_k"]) rfl F sc_l_mixed (by decide) (fun _ _ _ _ _ _ us hl => match us, hl with | [_, _], _ => rfl) (fun cdv A outer s H E cx =>
    sb_cons (ss_set (i := 2) sc_l_mixed.nd (sd_callTy call_list_of cs_listB (S.free 2) (by rfl) (sa_cons (sd_var 1) (sa_nil))))
      (sb_one (ss_ret (sd_lc (own := [("_law_k", 3)]) sc_l_mixed.nd (si_range (S.free 27) (sa_cons (sd_callB call_len cs_len (S.free 6) boot_len (sa_cons (sd_var 2) (sa_nil))) (sa_nil))) (blkOk_by (N := ["_law_stream", "_law_some", "_law_left", "_law_k"]) (sc := defScope s_l_mixed) (by decide +kernel)) (fun _ _ _ _ _ => pg_name (i := 3) sc_l_mixed.nd rfl (Or.inl rfl)) (gok_name (by decide)) (fun _ _ _ _ _ => sts_nil) (fun _ _ _ _ _ => sd_bm PySem.F.plainAttrs_list PySem.F.slot_list_pop PySem.F.type_list_pop mt_popAt ty_list ms_popAt (sd_var 2) (sa_cons (sd_callO (ok_l_draw S base) cx.room (by omega) cx.hG (S.glo 26) takes0 (sa_cons (sd_var 0) (sa_cons (sd_callB call_len cs_len (S.free 6) boot_len (sa_cons (sd_var 2) (sa_nil))) (sa_nil))) (mCons_len (mCons_len mNil_len))) (sa_nil)))))))
theorem ok_l_held (S : SYk w K mg) (base : Heap) : OkF P w K mg base (3) (He.fAd K ("_law_held", none)) ["_law_stream", "_law_pool"] [] l_held := by
  obtain ⟨fd, F⟩ := S.def_ 23 (d := d_l_held)
  exact okF (N := ["_law_stream", "_law_pool", "_law_cell"]) rfl F sc_l_held (by decide) (fun _ _ _ _ _ _ us hl => match us, hl with | [_, _], _ => rfl) (fun cdv A outer s H E cx =>
    sb_one (ss_ret (sd_callTy call_tuple_of cs_tuple (S.free 3) (by rfl) (sa_cons (sd_lc (own := [("_law_cell", 2)]) sc_l_held.nd (si_seq (sd_callO (ok_l_mixed S base) cx.room (by omega) cx.hG (S.glo 35) cx.tk (sa_cons (sd_var 0) (sa_cons (sd_dget cx.room.units1 (sd_var 1) (sd_str)) (sa_nil))) (mCons_len (mCons_len mNil_len)))) (blkOk_by (N := ["_law_stream", "_law_pool", "_law_cell"]) (sc := defScope s_l_held) (by decide +kernel)) (fun _ _ _ _ _ => pg_name (i := 2) sc_l_held.nd rfl (Or.inl rfl)) (gok_name (by decide)) (fun _ _ _ _ _ => sts_one (st_cmp (op_eqD cx.room.units) os_eq (sd_callO (ok_l_draw S base) cx.room (by omega) cx.hG (S.glo 26) takes0 (sa_cons (sd_var 0) (sa_cons (sd_int) (sa_nil))) (mCons_len (mCons_len mNil_len))) (sd_int))) (fun _ _ _ _ _ => sd_var 2)) (sa_nil)))))
theorem ok_l_plains (S : SYk w K mg) (base : Heap) : OkF P w K mg base (4) (He.fAd K ("_law_plains", none)) ["_law_stream", "_law_pool", "_law_most"] [] l_plains := by
  obtain ⟨fd, F⟩ := S.def_ 24 (d := d_l_plains)
  exact okF (N := ["_law_stream", "_law_pool", "_law_most", "_law_k"]) rfl F sc_l_plains (by decide) (fun _ _ _ _ _ _ us hl => match us, hl with | [_, _, _], _ => rfl) (fun cdv A outer s H E cx =>
    sb_one (ss_ret (sd_callTy call_tuple_of cs_tuple (S.free 3) (by rfl) (sa_cons (sd_lc (own := [("_law_k", 3)]) sc_l_plains.nd (si_range (S.free 27) (sa_cons (sd_callO (ok_l_draw S base) cx.room (by omega) cx.hG (S.glo 26) cx.tk (sa_cons (sd_var 0) (sa_cons (sd_bin op_addM os_add (sd_var 2) (sd_int)) (sa_nil))) (mCons_len (mCons_len mNil_len))) (sa_nil))) (blkOk_by (N := ["_law_stream", "_law_pool", "_law_most", "_law_k"]) (sc := defScope s_l_plains) (by decide +kernel)) (fun _ _ _ _ _ => pg_name (i := 3) sc_l_plains.nd rfl (Or.inl rfl)) (gok_name (by decide)) (fun _ _ _ _ _ => sts_nil) (fun _ _ _ _ _ => sd_callO (ok_l_plain S base) cx.room (by omega) cx.hG (S.glo 36) takes0 (sa_cons (sd_var 0) (sa_cons (sd_var 1) (sa_nil))) (mCons_len (mCons_len mNil_len)))) (sa_nil)))))
end
end MP

set_option Elab.async false
set_option linter.all false
set_option maxRecDepth 100000
set_option maxHeartbeats 8000000
namespace MP
open PySem L2
section
variable {P : Program} {w : World} {K : PySem.W.Frag} {mg : Str → Option Value}
theorem ok_l_times (S : SYk w K mg) (base : Heap) : OkF P w K mg base (5) (He.fAd K ("_law_times", none)) ["_law_stream", "_law_pool", "_law_left"] [] l_times := by
  obtain ⟨fd, F⟩ := S.def_ 25 (d := d_l_times)
  exact okF (N := ["_law_stream", "_law_pool", "_law_left", "_law_n", "_law_body", "_law_other"]) rfl F sc_l_times (by decide) (fun _ _ _ _ _ _ us hl => match us, hl with | [_, _, _], _ => rfl) (fun cdv A outer s H E cx =>
    sb_cons (ss_par (i := 3) (j := 4) sc_l_times.nd (sa_cons (sd_callO (ok_l_draw S base) cx.room (by omega) cx.hG (S.glo 26) cx.tk (sa_cons (sd_var 0) (sa_cons (sd_int) (sa_nil))) (mCons_len (mCons_len mNil_len))) (sa_cons (sd_callO (ok_l_plains S base) cx.room (by omega) cx.hG (S.glo 37) cx.tk (sa_cons (sd_var 0) (sa_cons (sd_var 1) (sa_cons (sd_int) (sa_nil)))) (mCons_len (mCons_len (mCons_len mNil_len)))) (sa_nil))))
      (sb_cons (ss_asg (sd_bin op_sub os_sub (sd_ix ix_seq os_ix (sd_var 2) (sd_int)) (sd_callB call_len cs_len (S.free 6) boot_len (sa_cons (sd_var 4) (sa_nil)))) (sg_sub (pg_sub (sd_var 2) (sd_int) set_list (by intro _; rfl))) gmSub_noex)
      (sb_cons (ss_if (st_w (sw_and (st_cmp op_gt os_gt (sd_var 3) (sd_int)) (sw_and (st_cmp op_ge os_ge (sd_ix ix_seq os_ix (sd_var 2) (sd_int)) (sd_var 3)) (sw_and1 (st_cmp (op_eqD cx.room.units) os_eq (sd_callO (ok_l_draw S base) cx.room (by omega) cx.hG (S.glo 26) cx.tk (sa_cons (sd_var 0) (sa_cons (sd_int) (sa_nil))) (mCons_len (mCons_len mNil_len))) (sd_int)))))) (sb_cons (ss_asg (sd_tup (sa_cons (sd_bin op_sub os_sub (sd_ix ix_seq os_ix (sd_var 2) (sd_int)) (sd_var 3)) (sa_cons (sd_bin op_sub os_sub (sd_ix ix_seq os_ix (sd_var 2) (sd_int)) (sd_int)) (sa_nil)))) (sg_tup rfl (sgs_cons (sg_sub (pg_sub (sd_var 2) (sd_int) set_list (by intro _; rfl))) (sgs_cons (sg_sub (pg_sub (sd_var 2) (sd_int) set_list (by intro _; rfl))) (sgs_nil) (hw := gmSub_noex) (hw2 := gmNil_noex)) (hw := gmSub_noex) (hw2 := (gmCons_noex gmSub_noex gmNil_noex))) (gmCons_len (gmCons_len gmNil_len gmSub_noex) gmSub_noex)) (gmTup_noex (gmCons_noex gmSub_noex (gmCons_noex gmSub_noex gmNil_noex))))
      (sb_cons (ss_set (i := 5) sc_l_times.nd (sd_tup (sa_cons (sd_callO (ok_l_plain S base) cx.room (by omega) cx.hG (S.glo 36) cx.tk (sa_cons (sd_var 0) (sa_cons (sd_var 1) (sa_nil))) (mCons_len (mCons_len mNil_len))) (sa_nil))))
      (sb_one (ss_ret (sd_tup (sa_cons (sd_str) (sa_cons (sd_var 3) (sa_cons (sd_tup (sa_cons (sd_tup (sa_cons (sd_str) (sa_cons (sd_callO (ok_l_held S base) cx.room (by omega) cx.hG (S.glo 38) cx.tk (sa_cons (sd_var 0) (sa_cons (sd_var 1) (sa_nil))) (mCons_len (mCons_len mNil_len))) (sa_cons (sd_var 4) (sa_cons (sd_var 5) (sa_nil)))))) (sa_nil))) (sa_nil))))))))) (sb_nil))
      (sb_one (ss_ret (sd_tup (sa_cons (sd_str) (sa_cons (sd_var 3) (sa_cons (sd_var 4) (sa_nil))))))))))
theorem okm_l_steps_l_test_l_choice_l_step (S : SYk w K mg) (base : Heap) : ∀ n : Nat, (OkF P w K mg base (6 + 2 * n) (He.fAd K ("_law_steps", none)) ["_law_stream", "_law_pool", "_law_left", "_law_deep"] [] (l_steps n)) ∧ (OkF P w K mg base (6 + 2 * n) (He.fAd K ("_law_test", none)) ["_law_stream", "_law_pool", "_law_left", "_law_deep"] [] (l_test n)) ∧ (OkF P w K mg base (6 + 2 * n) (He.fAd K ("_law_choice", none)) ["_law_stream", "_law_pool", "_law_left", "_law_deep"] [] (l_choice n)) ∧ (OkF P w K mg base (6 + 2 * n) (He.fAd K ("_law_step", none)) ["_law_stream", "_law_pool", "_law_left", "_law_deep"] [] (l_step n))
  | 0 => by
    refine ⟨?_, ?_, ?_, ?_⟩
    · obtain ⟨fd, F⟩ := S.def_ 26 (d := d_l_steps)
      have b := F.bindsN (ps := ["_law_stream", "_law_pool", "_law_left", "_law_deep"]) (fun _ _ _ _ _ _ us hl => match us, hl with | [_, _, _, _], _ => rfl)
      exact okF_halt (fun _ _ => rfl) ⟨fd, F.kp, b, [], .nil, b⟩
    · obtain ⟨fd, F⟩ := S.def_ 27 (d := d_l_test)
      have b := F.bindsN (ps := ["_law_stream", "_law_pool", "_law_left", "_law_deep"]) (fun _ _ _ _ _ _ us hl => match us, hl with | [_, _, _, _], _ => rfl)
      exact okF_halt (fun _ _ => rfl) ⟨fd, F.kp, b, [], .nil, b⟩
    · obtain ⟨fd, F⟩ := S.def_ 28 (d := d_l_choice)
      have b := F.bindsN (ps := ["_law_stream", "_law_pool", "_law_left", "_law_deep"]) (fun _ _ _ _ _ _ us hl => match us, hl with | [_, _, _, _], _ => rfl)
      exact okF_halt (fun _ _ => rfl) ⟨fd, F.kp, b, [], .nil, b⟩
    · obtain ⟨fd, F⟩ := S.def_ 29 (d := d_l_step)
      have b := F.bindsN (ps := ["_law_stream", "_law_pool", "_law_left", "_law_deep"]) (fun _ _ _ _ _ _ us hl => match us, hl with | [_, _, _, _], _ => rfl)
      exact okF_halt (fun _ _ => rfl) ⟨fd, F.kp, b, [], .nil, b⟩
  | n + 1 => by
    obtain ⟨ih_l_steps, ih_l_test, ih_l_choice, ih_l_step⟩ := okm_l_steps_l_test_l_choice_l_step S base n
    refine ⟨?_, ?_, ?_, ?_⟩
    · obtain ⟨fd, F⟩ := S.def_ 26 (d := d_l_steps)
      exact okF (k := 6 + 2 * n + 1) (N := ["_law_stream", "_law_pool", "_law_left", "_law_deep", "_law_found", "_law_k"]) rfl F sc_l_steps (by decide) (fun _ _ _ _ _ _ us hl => match us, hl with | [_, _, _, _], _ => rfl) (fun cdv A outer s H E cx =>
        sb_cons (ss_set (i := 4) sc_l_steps.nd (sd_lstB (sa_nil)))
      (sb_cons (ss_for cx.own rfl (si_range (S.free 27) (sa_cons (sd_callO (ok_l_draw S base) cx.room (by omega) cx.hG (S.glo 26) cx.tk (sa_cons (sd_var 0) (sa_cons (sd_int) (sa_nil))) (mCons_len (mCons_len mNil_len))) (sa_nil))) (sg_name (i := 5) sc_l_steps.nd) (sb_one (ss_if (st_cmp op_gt os_gt (sd_ix ix_seq os_ix (sd_var 2) (sd_int)) (sd_int)) (sb_one (ss_expr (sd_bm PySem.F.plainAttrs_list PySem.F.slot_list_append PySem.F.type_list_append mt_append ty_list ms_append (sd_var 4) (sa_cons (sd_callO (ih_l_step) cx.room (by omega) cx.hG (S.glo 39) cx.tk (sa_cons (sd_var 0) (sa_cons (sd_var 1) (sa_cons (sd_var 2) (sa_cons (sd_var 3) (sa_nil))))) (mCons_len (mCons_len (mCons_len (mCons_len mNil_len))))) (sa_nil))))) (sb_nil))) gmName_noex)
      (sb_one (ss_ret (sd_callTy call_tuple_of cs_tuple (S.free 3) (by rfl) (sa_cons (sd_var 4) (sa_nil)))))))
    · obtain ⟨fd, F⟩ := S.def_ 27 (d := d_l_test)
      exact okF (k := 6 + 2 * n + 1) (N := ["_law_stream", "_law_pool", "_law_left", "_law_deep", "_law_yes", "_law_no", "_law_cell", "_law_n"]) rfl F sc_l_test (by decide) (fun _ _ _ _ _ _ us hl => match us, hl with | [_, _, _, _], _ => rfl) (fun cdv A outer s H E cx =>
        sb_cons (ss_asg (sd_bin op_sub os_sub (sd_ix ix_seq os_ix (sd_var 2) (sd_int)) (sd_int)) (sg_sub (pg_sub (sd_var 2) (sd_int) set_list (by intro _; rfl))) gmSub_noex)
      (sb_cons (ss_par (i := 6) (j := 7) sc_l_test.nd (sa_cons (sd_callO (ok_l_pick S base) cx.room (by omega) cx.hG (S.glo 28) cx.tk (sa_cons (sd_var 0) (sa_cons (sd_dget cx.room.units1 (sd_var 1) (sd_str)) (sa_nil))) (mCons_len (mCons_len mNil_len))) (sa_cons (sd_callO (ok_l_number S base) cx.room (by omega) cx.hG (S.glo 34) cx.tk (sa_cons (sd_var 0) (sa_nil)) (mCons_len mNil_len)) (sa_nil))))
      (sb_cons (ss_set (i := 4) sc_l_test.nd (sd_callO (ih_l_steps) cx.room (by omega) cx.hG (S.glo 40) cx.tk (sa_cons (sd_var 0) (sa_cons (sd_var 1) (sa_cons (sd_var 2) (sa_cons (sd_var 3) (sa_nil))))) (mCons_len (mCons_len (mCons_len (mCons_len mNil_len))))))
      (sb_cons (ss_set (i := 5) sc_l_test.nd (sd_callO (ih_l_steps) cx.room (by omega) cx.hG (S.glo 40) cx.tk (sa_cons (sd_var 0) (sa_cons (sd_var 1) (sa_cons (sd_var 2) (sa_cons (sd_var 3) (sa_nil))))) (mCons_len (mCons_len (mCons_len (mCons_len mNil_len))))))
      (sb_cons (ss_if (st_cmp (op_eqD cx.room.units) os_eq (sd_callO (ok_l_draw S base) cx.room (by omega) cx.hG (S.glo 26) cx.tk (sa_cons (sd_var 0) (sa_cons (sd_int) (sa_nil))) (mCons_len (mCons_len mNil_len))) (sd_int)) (sb_one (ss_ret (sd_tup (sa_cons (sd_str) (sa_cons (sd_var 6) (sa_cons (sd_var 7) (sa_cons (sd_var 4) (sa_cons (sd_var 5) (sa_nil))))))))) (sb_nil))
      (sb_one (ss_ret (sd_tup (sa_cons (sd_str) (sa_cons (sd_var 6) (sa_cons (sd_callO (ok_l_pick S base) cx.room (by omega) cx.hG (S.glo 28) cx.tk (sa_cons (sd_var 0) (sa_cons (sd_dget cx.room.units1 (sd_var 1) (sd_str)) (sa_nil))) (mCons_len (mCons_len mNil_len))) (sa_cons (sd_var 7) (sa_cons (sd_var 4) (sa_cons (sd_var 5) (sa_nil)))))))))))))))
    · obtain ⟨fd, F⟩ := S.def_ 28 (d := d_l_choice)
      exact okF (k := 6 + 2 * n + 1) (N := ["_law_stream", "_law_pool", "_law_left", "_law_deep", "_law_body", "_law_other", "_law_held_here", "_law_way"]) rfl F sc_l_choice (by decide) (fun _ _ _ _ _ _ us hl => match us, hl with | [_, _, _, _], _ => rfl) (fun cdv A outer s H E cx =>
        sb_cons (ss_asg (sd_bin op_sub os_sub (sd_ix ix_seq os_ix (sd_var 2) (sd_int)) (sd_int)) (sg_sub (pg_sub (sd_var 2) (sd_int) set_list (by intro _; rfl))) gmSub_noex)
      (sb_cons (ss_par (i := 6) (j := 7) sc_l_choice.nd (sa_cons (sd_callO (ok_l_held S base) cx.room (by omega) cx.hG (S.glo 38) cx.tk (sa_cons (sd_var 0) (sa_cons (sd_var 1) (sa_nil))) (mCons_len (mCons_len mNil_len))) (sa_cons (sd_callO (ok_l_draw S base) cx.room (by omega) cx.hG (S.glo 26) cx.tk (sa_cons (sd_var 0) (sa_cons (sd_int) (sa_nil))) (mCons_len (mCons_len mNil_len))) (sa_nil))))
      (sb_cons (ss_set (i := 4) sc_l_choice.nd (sd_callO (ih_l_steps) cx.room (by omega) cx.hG (S.glo 40) cx.tk (sa_cons (sd_var 0) (sa_cons (sd_var 1) (sa_cons (sd_var 2) (sa_cons (sd_var 3) (sa_nil))))) (mCons_len (mCons_len (mCons_len (mCons_len mNil_len))))))
      (sb_cons (ss_set (i := 5) sc_l_choice.nd (sd_callO (ih_l_steps) cx.room (by omega) cx.hG (S.glo 40) cx.tk (sa_cons (sd_var 0) (sa_cons (sd_var 1) (sa_cons (sd_var 2) (sa_cons (sd_var 3) (sa_nil))))) (mCons_len (mCons_len (mCons_len (mCons_len mNil_len))))))
      (sb_cons (ss_if (st_cmp op_lt os_lt (sd_var 7) (sd_int)) (sb_one (ss_ret (sd_tup (sa_cons (sd_str) (sa_cons (sd_var 6) (sa_cons (sd_var 4) (sa_cons (sd_var 5) (sa_nil)))))))) (sb_nil))
      (sb_cons (ss_if (st_cmp (op_eqD cx.room.units) os_eq (sd_var 7) (sd_int)) (sb_one (ss_ret (sd_tup (sa_cons (sd_str) (sa_cons (sd_var 6) (sa_cons (sd_var 4) (sa_cons (sd_var 5) (sa_nil)))))))) (sb_nil))
      (sb_one (ss_ret (sd_tup (sa_cons (sd_str) (sa_cons (sd_var 6) (sa_cons (sd_var 4) (sa_cons (sd_var 5) (sa_cons (sd_callO (ih_l_steps) cx.room (by omega) cx.hG (S.glo 40) cx.tk (sa_cons (sd_var 0) (sa_cons (sd_var 1) (sa_cons (sd_var 2) (sa_cons (sd_var 3) (sa_nil))))) (mCons_len (mCons_len (mCons_len (mCons_len mNil_len))))) (sa_nil)))))))))))))))
    · obtain ⟨fd, F⟩ := S.def_ 29 (d := d_l_step)
      exact okF (k := 6 + 2 * n + 1) (N := ["_law_stream", "_law_pool", "_law_left", "_law_deep", "_law_way", "_law_body", "_law_other", "_law_held_here", "_law_word"]) rfl F sc_l_step (by decide) (fun _ _ _ _ _ _ us hl => match us, hl with | [_, _, _, _], _ => rfl) (fun cdv A outer s H E cx =>
        sb_cons (ss_asg (sd_bin op_sub os_sub (sd_ix ix_seq os_ix (sd_var 2) (sd_int)) (sd_int)) (sg_sub (pg_sub (sd_var 2) (sd_int) set_list (by intro _; rfl))) gmSub_noex)
      (sb_cons (ss_set (i := 4) sc_l_step.nd (sd_if (st_cmp op_gt os_gt (sd_var 3) (sd_int)) (sd_callO (ok_l_draw S base) cx.room (by omega) cx.hG (S.glo 26) cx.tk (sa_cons (sd_var 0) (sa_cons (sd_int) (sa_nil))) (mCons_len (mCons_len mNil_len))) (sd_int)))
      (sb_cons (ss_if (st_w (sw_and (st_chain op_le op_lt (sd_int) (sd_var 4) (sd_int)) (sw_and1 (st_cmp op_gt os_gt (sd_ix ix_seq os_ix (sd_var 2) (sd_int)) (sd_int))))) (sb_one (ss_ret (sd_callO (ih_l_test) cx.room (by omega) cx.hG (S.glo 41) cx.tk (sa_cons (sd_var 0) (sa_cons (sd_var 1) (sa_cons (sd_var 2) (sa_cons (sd_bin op_sub os_sub (sd_var 3) (sd_int)) (sa_nil))))) (mCons_len (mCons_len (mCons_len (mCons_len mNil_len))))))) (sb_nil))
      (sb_cons (ss_if (st_w (sw_and (st_chain op_le op_lt (sd_int) (sd_var 4) (sd_int)) (sw_and1 (st_cmp op_gt os_gt (sd_ix ix_seq os_ix (sd_var 2) (sd_int)) (sd_int))))) (sb_one (ss_ret (sd_callO (ih_l_choice) cx.room (by omega) cx.hG (S.glo 42) cx.tk (sa_cons (sd_var 0) (sa_cons (sd_var 1) (sa_cons (sd_var 2) (sa_cons (sd_bin op_sub os_sub (sd_var 3) (sd_int)) (sa_nil))))) (mCons_len (mCons_len (mCons_len (mCons_len mNil_len))))))) (sb_nil))
      (sb_cons (ss_if (st_chain op_le op_lt (sd_int) (sd_var 4) (sd_int)) (sb_cons (ss_par (i := 7) (j := 8) sc_l_step.nd (sa_cons (sd_callO (ok_l_held S base) cx.room (by omega) cx.hG (S.glo 38) cx.tk (sa_cons (sd_var 0) (sa_cons (sd_var 1) (sa_nil))) (mCons_len (mCons_len mNil_len))) (sa_cons (sd_callO (ok_l_pick S base) cx.room (by omega) cx.hG (S.glo 28) cx.tk (sa_cons (sd_var 0) (sa_cons (sd_dget cx.room.units1 (sd_var 1) (sd_str)) (sa_nil))) (mCons_len (mCons_len mNil_len))) (sa_nil))))
      (sb_cons (ss_set (i := 5) sc_l_step.nd (sd_callO (ih_l_steps) cx.room (by omega) cx.hG (S.glo 40) cx.tk (sa_cons (sd_var 0) (sa_cons (sd_var 1) (sa_cons (sd_var 2) (sa_cons (sd_bin op_sub os_sub (sd_var 3) (sd_int)) (sa_nil))))) (mCons_len (mCons_len (mCons_len (mCons_len mNil_len))))))
      (sb_cons (ss_set (i := 6) sc_l_step.nd (sd_callO (ih_l_steps) cx.room (by omega) cx.hG (S.glo 40) cx.tk (sa_cons (sd_var 0) (sa_cons (sd_var 1) (sa_cons (sd_var 2) (sa_cons (sd_bin op_sub os_sub (sd_var 3) (sd_int)) (sa_nil))))) (mCons_len (mCons_len (mCons_len (mCons_len mNil_len))))))
      (sb_one (ss_ret (sd_if (st_cmp (op_eqD cx.room.units) os_eq (sd_var 4) (sd_int)) (sd_tup (sa_cons (sd_str) (sa_cons (sd_var 5) (sa_cons (sd_var 6) (sa_nil))))) (sd_tup (sa_cons (sd_str) (sa_cons (sd_var 8) (sa_cons (sd_var 7) (sa_cons (sd_var 5) (sa_cons (sd_var 6) (sa_nil))))))))))))) (sb_nil))
      (sb_cons (ss_if (st_cmp op_gt os_gt (sd_var 4) (sd_int)) (sb_one (ss_ret (sd_callO (ok_l_times S base) cx.room (by omega) cx.hG (S.glo 43) cx.tk (sa_cons (sd_var 0) (sa_cons (sd_var 1) (sa_cons (sd_var 2) (sa_nil)))) (mCons_len (mCons_len (mCons_len mNil_len)))))) (sb_nil))
      (sb_one (ss_ret (sd_callO (ok_l_plain S base) cx.room (by omega) cx.hG (S.glo 36) cx.tk (sa_cons (sd_var 0) (sa_cons (sd_var 1) (sa_nil))) (mCons_len (mCons_len mNil_len)))))))))))
theorem ok_l_steps (S : SYk w K mg) (base : Heap) (n : Nat) : OkF P w K mg base (6 + 2 * n) (He.fAd K ("_law_steps", none)) ["_law_stream", "_law_pool", "_law_left", "_law_deep"] [] (l_steps n) := (okm_l_steps_l_test_l_choice_l_step S base n).1
theorem ok_l_test (S : SYk w K mg) (base : Heap) (n : Nat) : OkF P w K mg base (6 + 2 * n) (He.fAd K ("_law_test", none)) ["_law_stream", "_law_pool", "_law_left", "_law_deep"] [] (l_test n) := (okm_l_steps_l_test_l_choice_l_step S base n).2.1
theorem ok_l_choice (S : SYk w K mg) (base : Heap) (n : Nat) : OkF P w K mg base (6 + 2 * n) (He.fAd K ("_law_choice", none)) ["_law_stream", "_law_pool", "_law_left", "_law_deep"] [] (l_choice n) := (okm_l_steps_l_test_l_choice_l_step S base n).2.2.1
theorem ok_l_step (S : SYk w K mg) (base : Heap) (n : Nat) : OkF P w K mg base (6 + 2 * n) (He.fAd K ("_law_step", none)) ["_law_stream", "_law_pool", "_law_left", "_law_deep"] [] (l_step n) := (okm_l_steps_l_test_l_choice_l_step S base n).2.2.2
theorem ok_l_part (S : SYk w K mg) (base : Heap) : OkF P w K mg base (47) (He.fAd K ("_law_part", none)) ["_law_stream", "_law_pool", "_law_choices", "_law_tests"] [] l_part := by
  obtain ⟨fd, F⟩ := S.def_ 30 (d := d_l_part)
  exact okF (N := ["_law_stream", "_law_pool", "_law_choices", "_law_tests", "_law_left", "_law_found"]) rfl F sc_l_part (by decide) (fun _ _ _ _ _ _ us hl => match us, hl with | [_, _, _, _], _ => rfl) (fun cdv A outer s H E cx =>
    sb_cons (ss_par (i := 4) (j := 5) sc_l_part.nd (sa_cons (sd_lstB (sa_cons (sd_var 2) (sa_cons (sd_var 3) (sa_cons (sd_int) (sa_nil))))) (sa_cons (sd_lstB (sa_nil)) (sa_nil))))
      (sb_cons (ss_while 12 cx.own (st_w (sw_and (st_cmp op_lt os_lt (sd_callB call_len cs_len (S.free 6) boot_len (sa_cons (sd_var 5) (sa_nil))) (sd_int)) (sw_and1 (st_cmp op_gt os_gt (sd_ix ix_seq os_ix (sd_var 4) (sd_int)) (sd_int))))) (sb_one (ss_expr (sd_bm PySem.F.plainAttrs_list PySem.F.slot_list_append PySem.F.type_list_append mt_append ty_list ms_append (sd_var 5) (sa_cons (sd_callO (ok_l_step S base 20) cx.room (by omega) cx.hG (S.glo 39) cx.tk (sa_cons (sd_var 0) (sa_cons (sd_var 1) (sa_cons (sd_var 4) (sa_cons (sd_int) (sa_nil))))) (mCons_len (mCons_len (mCons_len (mCons_len mNil_len))))) (sa_nil))))))
      (sb_one (ss_ret (sd_callTy call_tuple_of cs_tuple (S.free 3) (by rfl) (sa_cons (sd_var 5) (sa_nil)))))))
theorem ok_l_shape (S : SYk w K mg) (base : Heap) : OkF P w K mg base (1) (He.fAd K ("_law_shape", none)) ["_law_word"] [] l_shape := by
  obtain ⟨fd, F⟩ := S.def_ 31 (d := d_l_shape)
  exact okF (N := ["_law_word", "_law_shapes", "_law_more"]) rfl F sc_l_shape (by decide) (fun _ _ _ _ _ _ us hl => match us, hl with | [_], _ => rfl) (fun cdv A outer s H E cx =>
    sb_cons (ss_set (i := 1) sc_l_shape.nd (sd_dlit (sp_cons (sd_str) (sp_cons (sd_str) (sp_cons (sd_str) (sp_cons (sd_str) (sp_cons (sd_str) (sp_cons (sd_str) (sp_cons (sd_str) (sp_nil)))))))) (by decide)))
      (sb_cons (ss_set (i := 2) sc_l_shape.nd (sd_dlit (sp_cons (sd_str) (sp_cons (sd_str) (sp_cons (sd_str) (sp_cons (sd_str) (sp_cons (sd_str) (sp_cons (sd_str) (sp_cons (sd_str) (sp_nil)))))))) (by decide)))
      (sb_one (ss_ret (sd_dget2 cx.room.units1 (sd_var 1) (sd_var 0) (sd_dget2 cx.room.units1 (sd_var 2) (sd_var 0) (sd_if (st_cmp (op_eqD cx.room.units) os_eq (sd_var 0) (sd_str)) (sd_str) (sd_non))))))))
theorem ok_l_lists (S : SYk w K mg) (base : Heap) : OkF P w K mg base (2) (He.fAd K ("_law_lists", none)) ["_law_step_here"] [] l_lists := by
  obtain ⟨fd, F⟩ := S.def_ 32 (d := d_l_lists)
  exact okF (N := ["_law_step_here", "_law_one", "_law_kind"]) rfl F sc_l_lists (by decide) (fun _ _ _ _ _ _ us hl => match us, hl with | [_], _ => rfl) (fun cdv A outer s H E cx =>
    sb_one (ss_ret (sd_lc (own := [("_law_one", 1), ("_law_kind", 2)]) sc_l_lists.nd (si_zip (S.free 17) (sa_cons (sd_slice (sd_var 0) (so_some (sd_int)) (so_none)) (sa_cons (sd_callO (ok_l_shape S base) cx.room (by omega) cx.hG (S.glo 44) cx.tk (sa_cons (sd_ix ix_seq os_ix (sd_var 0) (sd_int)) (sa_nil)) (mCons_len mNil_len)) (sa_nil)))) (blkOk_by (N := ["_law_step_here", "_law_one", "_law_kind"]) (sc := defScope s_l_lists) (by decide +kernel)) (fun _ _ _ _ _ => pg_tup rfl (pgs_cons (pg_name (i := 1) sc_l_lists.nd rfl (Or.inl rfl)) (pgs_cons (pg_name (i := 2) sc_l_lists.nd rfl (Or.inl rfl)) (pgs_nil)))) (gok_tup (gok_cons (gok_name (by decide)) (gok_cons (gok_name (by decide)) (gok_nil) gmName_sto) gmName_sto) (gmCons_len (gmCons_len gmNil_len gmName_noex) gmName_noex)) (fun _ _ _ _ _ => sts_one (st_cmp (op_eqD cx.room.units) os_eq (sd_var 2) (sd_str))) (fun _ _ _ _ _ => sd_var 1))))
theorem ok_l_all (S : SYk w K mg) (base : Heap) : ∀ n : Nat, OkF P w K mg base (3 + 2 * n) (He.fAd K ("_law_all", none)) ["_law_steps_here"] [] (l_all n)
  | 0 => by
    obtain ⟨fd, F⟩ := S.def_ 33 (d := d_l_all)
    have b := F.bindsN (ps := ["_law_steps_here"]) (fun _ _ _ _ _ _ us hl => match us, hl with | [_], _ => rfl)
    exact okF_halt (fun _ _ => rfl) ⟨fd, F.kp, b, [], .nil, b⟩
  | n + 1 => by
    have ih_l_all := ok_l_all S base n
    obtain ⟨fd, F⟩ := S.def_ 33 (d := d_l_all)
    exact okF (k := 3 + 2 * n + 1) (N := ["_law_steps_here", "_law_found", "_law_step_here", "_law_inner"]) rfl F sc_l_all (by decide) (fun _ _ _ _ _ _ us hl => match us, hl with | [_], _ => rfl) (fun cdv A outer s H E cx =>
      sb_cons (ss_set (i := 1) sc_l_all.nd (sd_lstB (sa_nil)))
      (sb_cons (ss_for cx.own rfl (si_seq (sd_var 0)) (sg_name (i := 2) sc_l_all.nd) (sb_cons (ss_expr (sd_bm PySem.F.plainAttrs_list PySem.F.slot_list_append PySem.F.type_list_append mt_append ty_list ms_append (sd_var 1) (sa_cons (sd_var 2) (sa_nil))))
      (sb_one (ss_for cx.own rfl (si_seq (sd_callO (ok_l_lists S base) cx.room (by omega) cx.hG (S.glo 45) cx.tk (sa_cons (sd_var 2) (sa_nil)) (mCons_len mNil_len))) (sg_name (i := 3) sc_l_all.nd) (sb_one (ss_expr (sd_bm PySem.F.plainAttrs_list PySem.F.slot_list_extend PySem.F.type_list_extend mt_extendM ty_list ms_extend (sd_var 1) (sa_cons (sd_callO (ih_l_all) cx.room (by omega) cx.hG (S.glo 46) cx.tk (sa_cons (sd_var 3) (sa_nil)) (mCons_len mNil_len)) (sa_nil))))) gmName_noex))) gmName_noex)
      (sb_one (ss_ret (sd_frz (sd_var 1))))))
theorem ok_l_cells (S : SYk w K mg) (base : Heap) : OkF P w K mg base (44) (He.fAd K ("_law_cells", none)) ["_law_steps_here"] [] l_cells := by
  obtain ⟨fd, F⟩ := S.def_ 34 (d := d_l_cells)
  exact okF (N := ["_law_steps_here", "_law_found", "_law_step_here", "_law_one", "_law_kind"]) rfl F sc_l_cells (by decide) (fun _ _ _ _ _ _ us hl => match us, hl with | [_], _ => rfl) (fun cdv A outer s H E cx =>
    sb_cons (ss_set (i := 1) sc_l_cells.nd (sd_lstB (sa_nil)))
      (sb_cons (ss_for cx.own rfl (si_seq (sd_callO (ok_l_all S base 20) cx.room (by omega) cx.hG (S.glo 46) cx.tk (sa_cons (sd_var 0) (sa_nil)) (mCons_len mNil_len))) (sg_name (i := 2) sc_l_cells.nd) (sb_one (ss_for cx.own rfl (si_zip (S.free 17) (sa_cons (sd_slice (sd_var 2) (so_some (sd_int)) (so_none)) (sa_cons (sd_callO (ok_l_shape S base) cx.room (by omega) cx.hG (S.glo 44) cx.tk (sa_cons (sd_ix ix_seq os_ix (sd_var 2) (sd_int)) (sa_nil)) (mCons_len mNil_len)) (sa_nil)))) (sg_tup rfl (sgs_cons (sg_name (i := 3) sc_l_cells.nd) (sgs_cons (sg_name (i := 4) sc_l_cells.nd) (sgs_nil) (hw := gmName_noex) (hw2 := gmNil_noex)) (hw := gmName_noex) (hw2 := (gmCons_noex gmName_noex gmNil_noex))) (gmCons_len (gmCons_len gmNil_len gmName_noex) gmName_noex)) (sb_one (ss_if (st_cmp op_inM os_in (sd_var 4) (sd_tup (sa_cons (sd_str) (sa_cons (sd_str) (sa_nil))))) (sb_one (ss_expr (sd_bm PySem.F.plainAttrs_list PySem.F.slot_list_extend PySem.F.type_list_extend mt_extendM ty_list ms_extend (sd_var 1) (sa_cons (sd_if (st_cmp (op_eqD cx.room.units) os_eq (sd_var 4) (sd_str)) (sd_lst (sa_cons (sd_var 3) (sa_nil))) (sd_var 3)) (sa_nil))))) (sb_nil))) (gmTup_noex (gmCons_noex gmName_noex (gmCons_noex gmName_noex gmNil_noex))))) gmName_noex)
      (sb_one (ss_ret (sd_sortSet rfl (S.free 13) (S.free 47) (sd_var 1))))))
theorem ok_l_words (S : SYk w K mg) (base : Heap) : OkF P w K mg base (44) (He.fAd K ("_law_words", none)) ["_law_steps_here", "_law_kinds"] [] l_words := by
  obtain ⟨fd, F⟩ := S.def_ 35 (d := d_l_words)
  exact okF (N := ["_law_steps_here", "_law_kinds", "_law_step_here"]) rfl F sc_l_words (by decide) (fun _ _ _ _ _ _ us hl => match us, hl with | [_, _], _ => rfl) (fun cdv A outer s H E cx =>
    sb_one (ss_ret (sd_sortSet rfl (S.free 13) (S.free 47) (sd_lc (own := [("_law_step_here", 2)]) sc_l_words.nd (si_seq (sd_callO (ok_l_all S base 20) cx.room (by omega) cx.hG (S.glo 46) cx.tk (sa_cons (sd_var 0) (sa_nil)) (mCons_len mNil_len))) (blkOk_by (N := ["_law_steps_here", "_law_kinds", "_law_step_here"]) (sc := defScope s_l_words) (by decide +kernel)) (fun _ _ _ _ _ => pg_name (i := 2) sc_l_words.nd rfl (Or.inl rfl)) (gok_name (by decide)) (fun _ _ _ _ _ => sts_one (st_cmp op_inM os_in (sd_ix ix_seq os_ix (sd_var 2) (sd_int)) (sd_var 1))) (fun _ _ _ _ _ => sd_ix ix_seq os_ix (sd_var 2) (sd_int))))))
theorem ok_c_Part_steps (S : SYk w K mg) (base : Heap) : OkF P w K mg base (1) (He.fAd K ("Part", some "steps")) ["self"] [] c_Part_steps := by
  obtain ⟨fd, F⟩ := S.def_ 36 (d := d_c_Part_steps)
  exact okF (N := ["self"]) rfl F sc_c_Part_steps (by decide) (fun _ _ _ _ _ _ us hl => match us, hl with | [_], _ => rfl) (fun cdv A outer s H E cx =>
    sb_one (ss_ret (sd_fld (S.cls 1) (S.noat 25) (sd_var 0))))
theorem ok_p_all_steps (S : SYk w K mg) (base : Heap) : ∀ n : Nat, OkF P w K mg base (2 + 2 * n) (He.fAd K ("all_steps", none)) ["steps", "path"] [.ref (He.dflAt ("all_steps", none) 0 K)] (p_all_steps n)
  | 0 => by
    obtain ⟨fd, F⟩ := S.def_ 37 (d := d_p_all_steps)
    exact okF1_halt (ps := ["steps", "path"]) (fun _ _ => rfl) rfl F 1 rfl (fun _ _ _ _ _ _ _ us its hl hi => match us, its, hl, hi with | [_, _], [_], _, _ => ⟨_, rfl, rfl⟩) (fun _ _ _ _ _ _ _ us its hl hi => match us, its, hl, hi with | [_], [_], _, _ => ⟨_, rfl, rfl⟩)
  | n + 1 => by
    have ih_p_all_steps := ok_p_all_steps S base n
    obtain ⟨fd, F⟩ := S.def_ 37 (d := d_p_all_steps)
    exact okF1 (k := 2 + 2 * n + 1) (N := ["steps", "path", "found", "at", "step", "here", "branch", "inner"]) rfl F sc_p_all_steps (by decide) 1 rfl (fun _ _ _ _ _ _ _ us its hl hi => match us, its, hl, hi with | [_, _], [_], _, _ => ⟨_, rfl, rfl⟩) (fun _ _ _ _ _ _ _ us its hl hi => match us, its, hl, hi with | [_], [_], _, _ => ⟨_, rfl, rfl⟩) (fun cdv A outer s H E cx =>
      sb_cons (ss_set (i := 2) sc_p_all_steps.nd (sd_lstB (sa_nil)))
      (sb_cons (ss_for cx.own rfl (si_enum (S.free 19) (sa_cons (sd_var 0) (sa_nil))) (sg_tup rfl (sgs_cons (sg_name (i := 3) sc_p_all_steps.nd) (sgs_cons (sg_name (i := 4) sc_p_all_steps.nd) (sgs_nil) (hw := gmName_noex) (hw2 := gmNil_noex)) (hw := gmName_noex) (hw2 := (gmCons_noex gmName_noex gmNil_noex))) (gmCons_len (gmCons_len gmNil_len gmName_noex) gmName_noex)) (sb_cons (ss_set (i := 5) sc_p_all_steps.nd (sd_tup (sa_star (sd_var 1) (sa_cons (sd_var 3) (sa_nil)))))
      (sb_cons (ss_expr (sd_bm PySem.F.plainAttrs_list PySem.F.slot_list_append PySem.F.type_list_append mt_append ty_list ms_append (sd_var 2) (sa_cons (sd_tup (sa_cons (sd_var 5) (sa_cons (sd_var 4) (sa_nil)))) (sa_nil))))
      (sb_one (ss_for cx.own rfl (si_enum (S.free 19) (sa_cons (sd_callO (ok_p_inner_lists S base) cx.room (by omega) cx.hG (S.glo 21) cx.tk (sa_cons (sd_var 4) (sa_nil)) (mCons_len mNil_len)) (sa_nil))) (sg_tup rfl (sgs_cons (sg_name (i := 6) sc_p_all_steps.nd) (sgs_cons (sg_name (i := 7) sc_p_all_steps.nd) (sgs_nil) (hw := gmName_noex) (hw2 := gmNil_noex)) (hw := gmName_noex) (hw2 := (gmCons_noex gmName_noex gmNil_noex))) (gmCons_len (gmCons_len gmNil_len gmName_noex) gmName_noex)) (sb_one (ss_expr (sd_bm PySem.F.plainAttrs_list PySem.F.slot_list_extend PySem.F.type_list_extend mt_extendM ty_list ms_extend (sd_var 2) (sa_cons (sd_callO (ih_p_all_steps) cx.room (by omega) cx.hG (S.glo 48) cx.tk (sa_cons (sd_var 7) (sa_cons (sd_tup (sa_star (sd_var 5) (sa_cons (sd_var 6) (sa_nil)))) (sa_nil))) (mCons_len (mCons_len mNil_len))) (sa_nil))))) (gmTup_noex (gmCons_noex gmName_noex (gmCons_noex gmName_noex gmNil_noex))))))) (gmTup_noex (gmCons_noex gmName_noex (gmCons_noex gmName_noex gmNil_noex))))
      (sb_one (ss_ret (sd_frz (sd_var 2))))))
theorem ok_p_names_at (S : SYk w K mg) (base : Heap) : OkF P w K mg base (43) (He.fAd K ("names_at", none)) ["steps", "kinds"] [] p_names_at := by
  obtain ⟨fd, F⟩ := S.def_ 38 (d := d_p_names_at)
  exact okF (N := ["steps", "kinds", "found", "path", "step", "one", "kind"]) rfl F sc_p_names_at (by decide) (fun _ _ _ _ _ _ us hl => match us, hl with | [_, _], _ => rfl) (fun cdv A outer s H E cx =>
    sb_cons (ss_set (i := 2) sc_p_names_at.nd (sd_lstB (sa_nil)))
      (sb_cons (ss_for cx.own rfl (si_seq (sd_callOD (ok_p_all_steps S base 20) cx.room (by omega) cx.hG (S.glo 48) S.dfl_all_steps cx.tk (sa_cons (sd_var 0) (sa_nil)) (fun ρ s ds s' h => by rw [(mCons_len mNil_len) ρ s ds s' h]; rfl))) (sg_tup rfl (sgs_cons (sg_name (i := 3) sc_p_names_at.nd) (sgs_cons (sg_name (i := 4) sc_p_names_at.nd) (sgs_nil) (hw := gmName_noex) (hw2 := gmNil_noex)) (hw := gmName_noex) (hw2 := (gmCons_noex gmName_noex gmNil_noex))) (gmCons_len (gmCons_len gmNil_len gmName_noex) gmName_noex)) (sb_one (ss_for cx.own rfl (si_zip (S.free 17) (sa_cons (sd_slice (sd_var 4) (so_some (sd_int)) (so_none)) (sa_cons (sd_tab S.tab_SHAPES (sd_ix ix_seq os_ix (sd_var 4) (sd_int)) (pe_glob rfl (S.glo 16) rfl)) (sa_nil)))) (sg_tup rfl (sgs_cons (sg_name (i := 5) sc_p_names_at.nd) (sgs_cons (sg_name (i := 6) sc_p_names_at.nd) (sgs_nil) (hw := gmName_noex) (hw2 := gmNil_noex)) (hw := gmName_noex) (hw2 := (gmCons_noex gmName_noex gmNil_noex))) (gmCons_len (gmCons_len gmNil_len gmName_noex) gmName_noex)) (sb_one (ss_if (st_cmp op_inM os_in (sd_var 6) (sd_var 1)) (sb_one (ss_expr (sd_bm PySem.F.plainAttrs_list PySem.F.slot_list_extend PySem.F.type_list_extend mt_extendM ty_list ms_extend (sd_var 2) (sa_cons (sd_if (st_cmp (op_eqD cx.room.units) os_eq (sd_var 6) (sd_str)) (sd_var 5) (sd_lst (sa_cons (sd_var 5) (sa_nil)))) (sa_nil))))) (sb_nil))) (gmTup_noex (gmCons_noex gmName_noex (gmCons_noex gmName_noex gmNil_noex))))) (gmTup_noex (gmCons_noex gmName_noex (gmCons_noex gmName_noex gmNil_noex))))
      (sb_one (ss_ret (sd_sortSetB rfl (S.free 13) (S.free 47) (sd_var 2))))))
theorem ok_c_Part_cells (S : SYk w K mg) (base : Heap) : OkF P w K mg base (44) (He.fAd K ("Part", some "cells")) ["self"] [] c_Part_cells := by
  obtain ⟨fd, F⟩ := S.def_ 39 (d := d_c_Part_cells)
  exact okF (N := ["self"]) rfl F sc_c_Part_cells (by decide) (fun _ _ _ _ _ _ us hl => match us, hl with | [_], _ => rfl) (fun cdv A outer s H E cx =>
    sb_one (ss_ret (sd_callO (ok_p_names_at S base) cx.room (by omega) cx.hG (S.glo 49) cx.tk (sa_cons (sd_fld (S.cls 1) (S.noat 25) (sd_var 0)) (sa_cons (sd_str) (sa_nil))) (mCons_len (mCons_len mNil_len)))))
end
end MP

set_option Elab.async false
set_option linter.all false
set_option maxRecDepth 100000
set_option maxHeartbeats 8000000
namespace MP
open PySem L2
section
variable {P : Program} {w : World} {K : PySem.W.Frag} {mg : Str → Option Value}
theorem ok_c_Part_words (S : SYk w K mg) (base : Heap) : OkF P w K mg base (43) (He.fAd K ("Part", some "words")) ["self"] [] c_Part_words := by
  obtain ⟨fd, F⟩ := S.def_ 40 (d := d_c_Part_words)
  exact okF (N := ["self", "said", "path", "step"]) rfl F sc_c_Part_words (by decide) (fun _ _ _ _ _ _ us hl => match us, hl with | [_], _ => rfl) (fun cdv A outer s H E cx =>
    sb_cons (ss_setLc (i := 1) (own := [("path", 2), ("step", 3)]) sc_c_Part_words.nd (si_seq (sd_callOD (ok_p_all_steps S base 20) cx.room (by omega) cx.hG (S.glo 48) S.dfl_all_steps cx.tk (sa_cons (sd_fld (S.cls 1) (S.noat 25) (sd_var 0)) (sa_nil)) (fun ρ s ds s' h => by rw [(mCons_len mNil_len) ρ s ds s' h]; rfl))) (blkOk_by (N := ["self", "said", "path", "step"]) (sc := defScope s_c_Part_words) (by decide +kernel)) (fun _ _ _ _ _ => pg_tup rfl (pgs_cons (pg_name (i := 2) sc_c_Part_words.nd rfl (Or.inl rfl)) (pgs_cons (pg_name (i := 3) sc_c_Part_words.nd rfl (Or.inl rfl)) (pgs_nil)))) (gok_tup (gok_cons (gok_name (by decide)) (gok_cons (gok_name (by decide)) (gok_nil) gmName_sto) gmName_sto) (gmCons_len (gmCons_len gmNil_len gmName_noex) gmName_noex)) (fun _ _ _ _ _ => sts_one (st_cmp (op_eqD cx.room.units) os_eq (sd_ix ix_seq os_ix (sd_var 3) (sd_int)) (sd_str))) (fun _ _ _ _ _ => sd_ix ix_seq os_ix (sd_var 3) (sd_int)) (by rfl))
      (sb_one (ss_ret (sd_sortSetB rfl (S.free 13) (S.free 47) (sd_var 1)))))
theorem ok_c_Part_faults (S : SYk w K mg) (base : Heap) : OkF P w K mg base (43) (He.fAd K ("Part", some "faults")) ["self"] [] c_Part_faults := by
  obtain ⟨fd, F⟩ := S.def_ 41 (d := d_c_Part_faults)
  exact okF (N := ["self", "named", "path", "step"]) rfl F sc_c_Part_faults (by decide) (fun _ _ _ _ _ _ us hl => match us, hl with | [_], _ => rfl) (fun cdv A outer s H E cx =>
    sb_cons (ss_setLc (i := 1) (own := [("path", 2), ("step", 3)]) sc_c_Part_faults.nd (si_seq (sd_callOD (ok_p_all_steps S base 20) cx.room (by omega) cx.hG (S.glo 48) S.dfl_all_steps cx.tk (sa_cons (sd_fld (S.cls 1) (S.noat 25) (sd_var 0)) (sa_nil)) (fun ρ s ds s' h => by rw [(mCons_len mNil_len) ρ s ds s' h]; rfl))) (blkOk_by (N := ["self", "named", "path", "step"]) (sc := defScope s_c_Part_faults) (by decide +kernel)) (fun _ _ _ _ _ => pg_tup rfl (pgs_cons (pg_name (i := 2) sc_c_Part_faults.nd rfl (Or.inl rfl)) (pgs_cons (pg_name (i := 3) sc_c_Part_faults.nd rfl (Or.inl rfl)) (pgs_nil)))) (gok_tup (gok_cons (gok_name (by decide)) (gok_cons (gok_name (by decide)) (gok_nil) gmName_sto) gmName_sto) (gmCons_len (gmCons_len gmNil_len gmName_noex) gmName_noex)) (fun _ _ _ _ _ => sts_one (st_w (sw_or (st_cmp (op_eqD cx.room.units) os_eq (sd_ix ix_seq os_ix (sd_var 3) (sd_int)) (sd_str)) (sw_or1 (st_cmp (op_eqD cx.room.units) os_eq (sd_ix ix_seq os_ix (sd_var 3) (sd_int)) (sd_str)))))) (fun _ _ _ _ _ => sd_ix ix_seq os_ix (sd_var 3) (sd_int)) (by rfl))
      (sb_one (ss_ret (sd_sortSetB rfl (S.free 13) (S.free 47) (sd_var 1)))))
theorem ok_c_Part_len (S : SYk w K mg) (base : Heap) : OkF P w K mg base (43) (He.fAd K ("Part", some "__len__")) ["self"] [] c_Part_len := by
  obtain ⟨fd, F⟩ := S.def_ 42 (d := d_c_Part_len)
  exact okF (N := ["self"]) rfl F sc_c_Part_len (by decide) (fun _ _ _ _ _ _ us hl => match us, hl with | [_], _ => rfl) (fun cdv A outer s H E cx =>
    sb_one (ss_ret (sd_callB call_len cs_len (S.free 6) boot_len (sa_cons (sd_callOD (ok_p_all_steps S base 20) cx.room (by omega) cx.hG (S.glo 48) S.dfl_all_steps cx.tk (sa_cons (sd_fld (S.cls 1) (S.noat 25) (sd_var 0)) (sa_nil)) (fun ρ s ds s' h => by rw [(mCons_len mNil_len) ρ s ds s' h]; rfl)) (sa_nil)))))
theorem ok_l_told (S : SYk w K mg) (base : Heap) : OkF P w K mg base (45) (He.fAd K ("_law_told", none)) ["_law_part_here"] [] l_told := by
  obtain ⟨fd, F⟩ := S.def_ 43 (d := d_l_told)
  exact okF (N := ["_law_part_here"]) rfl F sc_l_told (by decide) (fun _ _ _ _ _ _ us hl => match us, hl with | [_], _ => rfl) (fun cdv A outer s H E cx =>
    sb_one (ss_ret (sd_lst (sa_cons (sd_methO0 (S.cls 1) (S.meth 50) (ok_c_Part_steps S base) cx.room (by omega) cx.hG cx.tk (sd_var 0) rfl) (sa_cons (sd_methO0 (S.cls 1) (S.meth 51) (ok_c_Part_cells S base) cx.room (by omega) cx.hG cx.tk (sd_var 0) rfl) (sa_cons (sd_methO0 (S.cls 1) (S.meth 52) (ok_c_Part_words S base) cx.room (by omega) cx.hG cx.tk (sd_var 0) rfl) (sa_cons (sd_methO0 (S.cls 1) (S.meth 53) (ok_c_Part_faults S base) cx.room (by omega) cx.hG cx.tk (sd_var 0) rfl) (sa_cons (sd_lenOO (S.meth 54).at_ (S.meth 54).fn (ok_c_Part_len S base) cx.room (by omega) cx.hG cx.tk (sd_var 0) (S.free 6) rfl) (sa_nil)))))))))
theorem ok_c_Part_eq (S : SYk w K mg) (base : Heap) : OkF P w K mg base (1) (He.fAd K ("Part", some "__eq__")) ["self", "other"] [] c_Part_eq := by
  obtain ⟨fd, F⟩ := S.def_ 44 (d := d_c_Part_eq)
  exact okF (N := ["self", "other"]) rfl F sc_c_Part_eq (by decide) (fun _ _ _ _ _ _ us hl => match us, hl with | [_, _], _ => rfl) (fun cdv A outer s H E cx =>
    sb_one (ss_ret (sd_and (sd_isi (.own _) S.isi_Part (sd_var 1) (pe_glob rfl (S.glo 55) rfl) (S.free 4)) (sd_one (sd_cmp (op_eqD cx.room.units) os_eq (sd_fld (S.cls 1) (S.noat 25) (sd_var 0)) (sd_fld (S.cls 1) (S.noat 25) (sd_var 1)))))))
theorem fnG_law_ (S : SYk w K mg) (base : Heap) {fd : FuncData} (F : FunD K "law" "law" (defArgs s_law_) (defBody s_law_) (defScope s_law_) (d_law_.dvs K) (d_law_.kws K) (He.fAd K ("law", none)) fd) : FnG P w K mg base 48 (He.fAd K ("law", none)) fd ["_law_script"] (spM K 1 law_) :=
  fn_ok (N := ["_law_script", "_law_stream", "_law_turn", "_law_none", "_law_pool", "_law_given", "_law_part_here", "_law_due", "_law_k", "_law_longer", "_law_same_here", "_law_steps_here", "_law_other", "_law_told_here", "_law_listed_here"]) F sc_law_ (by decide) (fun cdv A outer s H E cx =>
  sb_cons (ss_set (i := 1) sc_law_.nd (sd_callO (ok_l_start S base) cx.room (by omega) cx.hG (S.glo 56) cx.tk (sa_cons (sd_var 0) (sa_nil)) (mCons_len mNil_len)))
      (sb_cons (ss_for cx.own rfl (si_range (S.free 27) (sa_cons (sd_int) (sa_nil))) (sg_name (i := 2) sc_law_.nd) (sb_cons (ss_set (i := 4) sc_law_.nd (sd_callO (ok_l_wide_pool S base) cx.room (by omega) cx.hG (S.glo 57) cx.tk (sa_cons (sd_var 1) (sa_nil)) (mCons_len mNil_len)))
      (sb_cons (ss_par (i := 11) (j := 12) sc_law_.nd (sa_cons (sd_callO (ok_l_part S base) cx.room (by omega) cx.hG (S.glo 58) cx.tk (sa_cons (sd_var 1) (sa_cons (sd_var 4) (sa_cons (sd_int) (sa_cons (sd_int) (sa_nil))))) (mCons_len (mCons_len (mCons_len (mCons_len mNil_len))))) (sa_cons (sd_callO (ok_l_part S base) cx.room (by omega) cx.hG (S.glo 58) cx.tk (sa_cons (sd_var 1) (sa_cons (sd_var 4) (sa_cons (sd_int) (sa_cons (sd_int) (sa_nil))))) (mCons_len (mCons_len (mCons_len (mCons_len mNil_len))))) (sa_nil))))
      (sb_cons (ss_set (i := 5) sc_law_.nd (sd_callO (ok_l_listed S base 20) cx.room (by omega) cx.hG (S.glo 31) cx.tk (sa_cons (sd_var 1) (sa_cons (sd_var 11) (sa_nil))) (mCons_len (mCons_len mNil_len))))
      (sb_cons (ss_set (i := 6) sc_law_.nd (sd_makeO (S.mkr 59) (ok_c_Part_init S base) cx.room (by omega) cx.hG (S.glo 55) cx.tk (sa_cons (sd_var 5) (sa_nil)) (fun ρ s ds s' h => by rw [(mCons_len mNil_len) ρ s ds s' h]; rfl)))
      (sb_cons (ss_expr (sd_callO (ok_l_spoil S base 20) cx.room (by omega) cx.hG (S.glo 32) cx.tk (sa_cons (sd_var 5) (sa_nil)) (mCons_len mNil_len)))
      (sb_cons (ss_set (i := 7) sc_law_.nd (sd_lst (sa_cons (sd_var 11) (sa_cons (sd_callO (ok_l_cells S base) cx.room (by omega) cx.hG (S.glo 60) cx.tk (sa_cons (sd_var 11) (sa_nil)) (mCons_len mNil_len)) (sa_cons (sd_callO (ok_l_words S base) cx.room (by omega) cx.hG (S.glo 61) cx.tk (sa_cons (sd_var 11) (sa_cons (sd_tup (sa_cons (sd_str) (sa_nil))) (sa_nil))) (mCons_len (mCons_len mNil_len))) (sa_nil))))))
      (sb_cons (ss_set (i := 7) sc_law_.nd (sd_bin op_addM os_add (sd_var 7) (sd_lst (sa_cons (sd_callO (ok_l_words S base) cx.room (by omega) cx.hG (S.glo 61) cx.tk (sa_cons (sd_var 11) (sa_cons (sd_tup (sa_cons (sd_str) (sa_cons (sd_str) (sa_nil)))) (sa_nil))) (mCons_len (mCons_len mNil_len))) (sa_cons (sd_callB call_len cs_len (S.free 6) boot_len (sa_cons (sd_callO (ok_l_all S base 20) cx.room (by omega) cx.hG (S.glo 46) cx.tk (sa_cons (sd_var 11) (sa_nil)) (mCons_len mNil_len)) (sa_nil))) (sa_nil))))))
      (sb_cons (ss_for cx.own rfl (si_range (S.free 27) (sa_cons (sd_int) (sa_nil))) (sg_name (i := 8) sc_law_.nd) (sb_cons (ss_set (i := 13) sc_law_.nd (sd_callO (ok_l_told S base) cx.room (by omega) cx.hG (S.glo 62) cx.tk (sa_cons (sd_var 6) (sa_nil)) (mCons_len mNil_len)))
      (sb_cons (ss_if (st_not (st_val (sd_callO (ok_l_same S base) cx.room (by omega) cx.hG (S.glo 63) cx.tk (sa_cons (sd_var 13) (sa_cons (sd_var 7) (sa_nil))) (mCons_len (mCons_len mNil_len))))) (sb_one (ss_ret (sd_bl))) (sb_nil))
      (sb_one (ss_for cx.own rfl (si_seq (sd_slice (sd_var 13) (so_some (sd_int)) (so_some (sd_int)))) (sg_name (i := 14) sc_law_.nd) (sb_one (ss_expr (sd_bm PySem.F.plainAttrs_list PySem.F.slot_list_append PySem.F.type_list_append mt_append ty_list ms_append (sd_var 14) (sa_cons (sd_str) (sa_nil))))) gmName_noex)))) gmName_noex)
      (sb_cons (ss_set (i := 9) sc_law_.nd (sd_makeO (S.mkr 59) (ok_c_Part_init S base) cx.room (by omega) cx.hG (S.glo 55) cx.tk (sa_cons (sd_bin op_addM os_add (sd_var 11) (sd_tup (sa_cons (sd_tup (sa_cons (sd_str) (sa_nil))) (sa_nil)))) (sa_nil)) (fun ρ s ds s' h => by rw [(mCons_len mNil_len) ρ s ds s' h]; rfl)))
      (sb_cons (ss_set (i := 10) sc_law_.nd (sd_lst (sa_cons ((sd_eqOO (SY.eqOk_Part cx.K S) (S.meth 64).at_ (S.meth 64).fn (ok_c_Part_eq S base) cx.room (by omega) cx.hG cx.tk rfl (sd_var 6) (sd_makeO (S.mkr 59) (ok_c_Part_init S base) cx.room (by omega) cx.hG (S.glo 55) cx.tk (sa_cons (sd_var 11) (sa_nil)) (fun ρ s ds s' h => by rw [(mCons_len mNil_len) ρ s ds s' h]; rfl)))) (sa_cons ((sd_neOO (SY.eqOk_Part cx.K S) S.ne_Part S.mro_Part (S.meth 64).at_ (S.meth 64).fn (ok_c_Part_eq S base) cx.room (by omega) cx.hG cx.tk rfl (sd_var 6) (sd_makeO (S.mkr 59) (ok_c_Part_init S base) cx.room (by omega) cx.hG (S.glo 55) cx.tk (sa_cons (sd_var 11) (sa_nil)) (fun ρ s ds s' h => by rw [(mCons_len mNil_len) ρ s ds s' h]; rfl)))) (sa_cons ((sd_eqOO (SY.eqOk_Part cx.K S) (S.meth 64).at_ (S.meth 64).fn (ok_c_Part_eq S base) cx.room (by omega) cx.hG cx.tk rfl (sd_var 6) (sd_makeO (S.mkr 59) (ok_c_Part_init S base) cx.room (by omega) cx.hG (S.glo 55) cx.tk (sa_cons (sd_callTy call_list_of cs_listB (S.free 2) (by rfl) (sa_cons (sd_var 12) (sa_nil))) (sa_nil)) (fun ρ s ds s' h => by rw [(mCons_len mNil_len) ρ s ds s' h]; rfl)))) (sa_nil))))))
      (sb_cons (ss_set (i := 10) sc_law_.nd (sd_bin op_addM os_add (sd_var 10) (sd_lst (sa_cons ((sd_eqOO (SY.eqOk_Part cx.K S) (S.meth 64).at_ (S.meth 64).fn (ok_c_Part_eq S base) cx.room (by omega) cx.hG cx.tk rfl (sd_var 6) (sd_var 9))) (sa_cons ((sd_eqOO (SY.eqOk_Part cx.K S) (S.meth 64).at_ (S.meth 64).fn (ok_c_Part_eq S base) cx.room (by omega) cx.hG cx.tk rfl (sd_var 6) (sd_var 11))) (sa_nil))))))
      (sb_one (ss_if (st_not (st_val (sd_callO (ok_l_same S base) cx.room (by omega) cx.hG (S.glo 63) cx.tk (sa_cons (sd_var 10) (sa_cons (sd_lst (sa_cons (sd_bl) (sa_cons (sd_bl) (sa_cons (sd_cmp (op_eqD cx.room.units) os_eq (sd_var 11) (sd_var 12)) (sa_cons (sd_bl) (sa_cons (sd_bl) (sa_nil))))))) (sa_nil))) (mCons_len (mCons_len mNil_len))))) (sb_one (ss_ret (sd_bl))) (sb_nil)))))))))))))) gmName_noex)
      (sb_cons (ss_set (i := 3) sc_law_.nd (sd_makeO (S.mkr 59) (ok_c_Part_init S base) cx.room (by omega) cx.hG (S.glo 55) cx.tk (sa_cons (sd_lstB (sa_nil)) (sa_nil)) (fun ρ s ds s' h => by rw [(mCons_len mNil_len) ρ s ds s' h]; rfl)))
      (sb_one (ss_ret (sd_and (sd_callO (ok_l_same S base) cx.room (by omega) cx.hG (S.glo 63) cx.tk (sa_cons (sd_callO (ok_l_told S base) cx.room (by omega) cx.hG (S.glo 62) cx.tk (sa_cons (sd_var 3) (sa_nil)) (mCons_len mNil_len)) (sa_cons (sd_lst (sa_cons (sd_tup (sa_nil)) (sa_cons (sd_lst (sa_nil)) (sa_cons (sd_lst (sa_nil)) (sa_cons (sd_lst (sa_nil)) (sa_cons (sd_int) (sa_nil))))))) (sa_nil))) (mCons_len (mCons_len mNil_len))) (sd_one ((sd_eqOO (SY.eqOk_Part cx.K S) (S.meth 64).at_ (S.meth 64).fn (ok_c_Part_eq S base) cx.room (by omega) cx.hG cx.tk rfl (sd_var 3) (sd_makeO (S.mkr 59) (ok_c_Part_init S base) cx.room (by omega) cx.hG (S.glo 55) cx.tk (sa_cons (sd_tup (sa_nil)) (sa_nil)) (fun ρ s ds s' h => by rw [(mCons_len mNil_len) ρ s ds s' h]; rfl)))))))))))
end
end MP

set_option Elab.async false
set_option linter.all false
set_option maxRecDepth 100000
set_option maxHeartbeats 0
namespace MP
open PySem PySem.Spec PyProof.Rows L2
/-! the head of law_k01_parts_told -/
abbrev R0 : PySem.W.OpenRow := PySem.W.OpenLaw.row PySem.Challenge.rw_heldback_k01_parts_told
abbrev hk0 : PySem.W.Hook := He.hookX 5 fa0 fn0 ts0 [] ex0
def ob0 (s : PySem.W.SharedT) : He.AlX := He.obsX 5 fa0 fn0 ts0 [] ex0 (HandSHeadRun.getT s)
theorem ob0_eq (s : PySem.W.SharedT) : ob0 s = hk0.obs s.abs := He.obsX_eq (HandSHeadRun.getT_eq s)
def loose0 : List Str := (["_wall", "copied", "HeldError", "BadPart", "NoPath", "BadUse", "Uncaught", "NoAnswer", "Track", "fault_thing", "things_of", "thing_of", "begin_step", "do_plain", "holds", "begun_track", "run_on", "LETTERS", "SHAPES", "is_name"] : List Str) ++ (["is_integer", "is_list", "is_held", "fits", "is_step", "inner_lists", "first_bad", "frozen", "frozen_step", "all_steps", "names_at", "step_at", "checked_cells", "is_cells", "Part", "_law_draw", "_law_start", "_law_pick", "_law_mixed", "_law_same"] : List Str) ++ (["_law_name", "_law_names", "_law_number", "_law_held", "_law_plain", "_law_plains", "_law_steps", "_law_test", "_law_choice", "_law_times", "_law_step", "_law_part", "_law_lists", "_law_all", "_law_cells", "_law_listed", "_law_spoil", "_law_words", "_law_shape", "_law_wide_pool"] : List Str) ++ (["_law_told"] : List Str)
theorem run0f (w : World) : HandSHeadRun.RunEq R0 (PySem.W.view R0.prog [66]) hk0 ob0 6000 loose0 (w.withFollow "special-get-raises" false) := by
  intro os
  kernel_rfl
theorem run0t (w : World) : HandSHeadRun.RunEq R0 (PySem.W.view R0.prog [66]) hk0 ob0 6000 loose0 (w.withFollow "special-get-raises" true) := by
  intro os
  kernel_rfl
theorem run0 (w : World) : HandSHeadRun.RunEq R0 (PySem.W.view R0.prog [66]) hk0 ob0 6000 loose0 w := PySem.W.byRow2 "special-get-raises" (P := fun w => HandSHeadRun.RunEq R0 (PySem.W.view R0.prog [66]) hk0 ob0 6000 loose0 w) run0f run0t w
end MP

set_option Elab.async false
set_option linter.all false
set_option maxRecDepth 100000
set_option maxHeartbeats 4000000
/-! PL1: what is wanted of readings (wp), loops by invariants -/
namespace MP
open PySem L2
abbrev XP := Xc → Sto → Prop
/-- holds its argument fixed for simp -/
abbrev Tg {β : Type} (q : β) : Type := Unit
def vpR {α : Type} (x : RO α) (Q : α → Sto → Prop) (E : XP) : Prop := match x with
  | some (.ok a s) => Q a s
  | some (.ex e s) => E e s
  | none => False
structure wpR {α : Type} (x : RO α) (Q : α → Sto → Prop) (E : XP) (t : Tg (Q, E) := Unit.unit) : Prop where
  h : vpR x Q E
def vpS (x : Option F) (N : Env → Sto → Prop) (Rt : D → Sto → Prop) (B C : Env → Sto → Prop) (E : Xc → Env → Sto → Prop) : Prop := match x with
  | some (.nx ρ s) => N ρ s
  | some (.rt d s) => Rt d s
  | some (.bk ρ s) => B ρ s
  | some (.ct ρ s) => C ρ s
  | some (.ex e ρ s) => E e ρ s
  | none => False
structure wpS (x : Option F) (N : Env → Sto → Prop) (Rt : D → Sto → Prop) (B C : Env → Sto → Prop) (E : Xc → Env → Sto → Prop) (t : Tg (N, Rt, B, C, E) := Unit.unit) : Prop where
  h : vpS x N Rt B C E
theorem wpR_def {α : Type} {x : RO α} {Q : α → Sto → Prop} {E : XP} : wpR x Q E = vpR x Q E := propext ⟨fun z => z.h, fun z => ⟨z⟩⟩
theorem wpS_def {x : Option F} {N : Env → Sto → Prop} {Rt : D → Sto → Prop} {B C : Env → Sto → Prop} {E : Xc → Env → Sto → Prop} : wpS x N Rt B C E = vpS x N Rt B C E := propext ⟨fun z => z.h, fun z => ⟨z⟩⟩
section
variable {α β : Type} {Q Q' : α → Sto → Prop} {E E' : XP}
@[simp] theorem wpR_ok {a : α} {s : Sto} : wpR (some (.ok a s)) Q E = Q a s := wpR_def
@[simp] theorem wpR_ex {x : Xc} {s : Sto} : wpR (some (.ex x s) : RO α) Q E = E x s := wpR_def
@[simp] theorem wpR_none : wpR (none : RO α) Q E = False := wpR_def
theorem wpR_bnd {x : RO β} {f : β → Sto → RO α} : wpR (bnd x f) Q E = wpR x (fun a s => wpR (f a s) Q E) E := by
  cases x with
  | none => simp only [bnd_none, wpR_none]
  | some r => cases r <;> simp only [bnd_ok, bnd_ex, wpR_ok, wpR_ex]
theorem wpR_noX {x : RO α} : wpR (noX x) Q E = wpR x Q (fun _ _ => False) := by
  cases x with
  | none => simp only [noX_none, wpR_none]
  | some r => cases r <;> simp only [noX_ok, noX_ex, wpR_ok, wpR_ex, wpR_none]
theorem wpR_ext {x : RO α} (h : ∀ a s, Q a s = Q' a s) : wpR x Q E = wpR x Q' E := by
  obtain rfl : Q = Q' := funext fun a => funext fun s => h a s
  rfl
theorem wpR_mono {x : RO α} (h : wpR x Q E) (hQ : ∀ a s, Q a s → Q' a s) (hE : ∀ e s, E e s → E' e s) : wpR x Q' E' := by
  obtain ⟨h⟩ := h
  refine ⟨?_⟩
  cases x with
  | none => exact h
  | some r => cases r with
    | ok a s => exact hQ a s h
    | ex e s => exact hE e s h
/-- no error, whatever is wanted of errors -/
theorem wpR_imp {x : RO α} (h : wpR x Q (fun _ _ => False)) (hQ : ∀ a s, Q a s → Q' a s) : wpR x Q' E := wpR_mono h hQ fun _ _ z => z.elim
theorem wpR_eq {x : RO α} {a : α} {s : Sto} (h : x = some (.ok a s)) (q : Q a s) : wpR x Q E := by rw [h, wpR_ok]; exact q
theorem wpR_get {x : RO α} (h : wpR x Q (fun _ _ => False)) : ∃ a s, x = some (.ok a s) ∧ Q a s := by
  obtain ⟨h⟩ := h
  cases x with
  | none => exact h.elim
  | some r => cases r with
    | ok a s => exact ⟨a, s, rfl, h⟩
    | ex e s => exact h.elim
theorem wpR_still {G : Sto → Prop} {s : Sto} {x : RO α} (hG : G s) (h : wpR x Q E) : wpR (still G s x) Q E := by rw [still_yes hG]; exact h
theorem wpR_if {c : Prop} [Decidable c] {x y : RO α} : wpR (if c then x else y) Q E = if c then wpR x Q E else wpR y Q E := by split <;> rfl
end
section
variable {α : Type} {N N' : Env → Sto → Prop} {Rt Rt' : D → Sto → Prop} {B B' C C' : Env → Sto → Prop} {E E' : Xc → Env → Sto → Prop}
@[simp] theorem wpS_nx {ρ : Env} {s : Sto} : wpS (some (.nx ρ s)) N Rt B C E = N ρ s := wpS_def
@[simp] theorem wpS_rt {d : D} {s : Sto} : wpS (some (.rt d s)) N Rt B C E = Rt d s := wpS_def
@[simp] theorem wpS_bk {ρ : Env} {s : Sto} : wpS (some (.bk ρ s)) N Rt B C E = B ρ s := wpS_def
@[simp] theorem wpS_ct {ρ : Env} {s : Sto} : wpS (some (.ct ρ s)) N Rt B C E = C ρ s := wpS_def
@[simp] theorem wpS_ex {x : Xc} {ρ : Env} {s : Sto} : wpS (some (.ex x ρ s)) N Rt B C E = E x ρ s := wpS_def
@[simp] theorem wpS_none : wpS none N Rt B C E = False := wpS_def
theorem wpS_then {x : Option F} {f : MS} : wpS (thenS x f) N Rt B C E = wpS x (fun ρ s => wpS (f ρ s) N Rt B C E) Rt B C E := by
  cases x with
  | none => simp only [thenS_none, wpS_none]
  | some r => cases r <;> simp only [thenS_nx, thenS_rt, thenS_bk, thenS_ct, thenS_ex, wpS_nx, wpS_rt, wpS_bk, wpS_ct, wpS_ex]
theorem wpS_bnd {x : RO α} {ρ : Env} {f : α → Sto → Option F} : wpS (bndS x ρ f) N Rt B C E = wpR x (fun a s => wpS (f a s) N Rt B C E) (fun e s => E e ρ s) := by
  cases x with
  | none => simp only [bndS_none, wpS_none, wpR_none]
  | some r => cases r <;> simp only [bndS_ok, bndS_ex, wpS_ex, wpR_ok, wpR_ex]
theorem wpS_if {c : Prop} [Decidable c] {x y : Option F} : wpS (if c then x else y) N Rt B C E = if c then wpS x N Rt B C E else wpS y N Rt B C E := by split <;> rfl
theorem wpS_mono {x : Option F} (h : wpS x N Rt B C E) (hN : ∀ ρ s, N ρ s → N' ρ s) (hR : ∀ d s, Rt d s → Rt' d s) (hB : ∀ ρ s, B ρ s → B' ρ s) (hC : ∀ ρ s, C ρ s → C' ρ s) (hE : ∀ e ρ s, E e ρ s → E' e ρ s) : wpS x N' Rt' B' C' E' := by
  obtain ⟨h⟩ := h
  refine ⟨?_⟩
  cases x with
  | none => exact h
  | some r => cases r with
    | nx ρ s => exact hN _ _ h
    | rt d s => exact hR _ _ h
    | bk ρ s => exact hB _ _ h
    | ct ρ s => exact hC _ _ h
    | ex e ρ s => exact hE _ _ _ h
/-- a for's loop by an invariant over what is left -/
theorem wp_for {G : Sto → Prop} {g : MG} {body : MS} (Inv : List D → Env → Sto → Prop)
    (hstep : ∀ d ds ρ s, Inv (d :: ds) ρ s → G s ∧ wpR (g d ρ s) (fun ρ1 s1 => wpS (body ρ1 s1) (Inv ds) Rt N (Inv ds) E) (fun e s => E e ρ s)) (hend : ∀ ρ s, Inv [] ρ s → G s ∧ N ρ s) :
    ∀ {ds : List D} {ρ : Env} {s : Sto}, Inv ds ρ s → wpS (forL G g body ds ρ s) N Rt B C E := by
  intro ds
  induction ds with
  | nil =>
    intro ρ s h
    obtain ⟨h1, h2⟩ := hend ρ s h
    unfold forL
    rw [still_yes h1, wpS_nx]
    exact h2
  | cons d ds ih =>
    intro ρ s h
    obtain ⟨h1, h2⟩ := hstep d ds ρ s h
    unfold forL
    rw [still_yes h1, wpS_bnd]
    refine wpR_mono h2 (fun ρ1 s1 h3 => ?_) fun _ _ z => z
    obtain ⟨h3⟩ := h3
    cases hb : body ρ1 s1 with
    | none => rw [hb] at h3; exact h3.elim
    | some f =>
      rw [hb] at h3
      cases f with
      | nx ρ2 s2 => exact ih h3
      | ct ρ2 s2 => exact ih h3
      | bk ρ2 s2 => exact ⟨h3⟩
      | rt d s2 => exact ⟨h3⟩
      | ex e ρ2 s2 => exact ⟨h3⟩
theorem wp_while {c : MT} {body : MS} (Inv : Nat → Env → Sto → Prop)
    (hstep : ∀ n ρ s, Inv n ρ s → wpR (c ρ s) (fun k s1 => if k = true then ∃ m, n = m + 1 ∧ wpS (body ρ s1) (Inv m) Rt N (Inv m) E else N ρ s1) (fun e s => E e ρ s)) :
    ∀ {n k : Nat} {ρ : Env} {s : Sto}, Inv n ρ s → n < k → wpS (whileL c body k ρ s) N Rt B C E := by
  intro n
  induction n with
  | zero =>
    intro k ρ s h hk
    obtain ⟨k, rfl⟩ : ∃ j, k = j + 1 := ⟨k - 1, by omega⟩
    unfold whileL
    rw [wpS_bnd]
    refine wpR_mono (hstep _ _ _ h) (fun b s1 h3 => ?_) fun _ _ z => z
    cases b with
    | false => exact ⟨h3⟩
    | true =>
      obtain ⟨m, e, _⟩ := (show ∃ m, 0 = m + 1 ∧ _ from h3)
      exact absurd e (by omega)
  | succ n ih =>
    intro k ρ s h hk
    obtain ⟨k, rfl⟩ : ∃ j, k = j + 1 := ⟨k - 1, by omega⟩
    unfold whileL
    rw [wpS_bnd]
    refine wpR_mono (hstep _ _ _ h) (fun b s1 h3 => ?_) fun _ _ z => z
    cases b with
    | false => exact ⟨h3⟩
    | true =>
      obtain ⟨m, e, ⟨h4⟩⟩ := (show ∃ m, n + 1 = m + 1 ∧ wpS (body ρ s1) (Inv m) Rt N (Inv m) E from h3)
      obtain rfl : n = m := by omega
      rw [if_pos rfl]
      cases hb : body ρ s1 with
      | none => rw [hb] at h4; exact h4.elim
      | some f =>
        rw [hb] at h4
        cases f with
        | nx ρ2 s2 => exact ih h4 (by omega)
        | ct ρ2 s2 => exact ih h4 (by omega)
        | bk ρ2 s2 => exact ⟨h4⟩
        | rt d s2 => exact ⟨h4⟩
        | ex e ρ2 s2 => exact ⟨h4⟩
end
/-! ### comprehensions -/
theorem wp_lc {G : Sto → Prop} {g : MG} {c : MT} {elt : ME} {ρ : Env} {Q : List D → Sto → Prop} {E : XP} (Inv : List D → List D → Sto → Prop)
    (hstep : ∀ d ds acc s, Inv (d :: ds) acc s → G s ∧ wpR (g d ρ s) (fun ρ1 s => wpR (c ρ1 s) (fun k s => if k = true then wpR (elt ρ1 s) (fun y s => Inv ds (acc ++ [y]) s) (fun _ _ => False) else Inv ds acc s) (fun _ _ => False)) (fun _ _ => False))
    (hend : ∀ acc s, Inv [] acc s → G s ∧ Q acc s) : ∀ {ds : List D} {s : Sto}, Inv ds [] s → wpR (lcL G g c elt ρ ds s) Q E := by
  have key : ∀ (ds acc : List D) (s : Sto), Inv ds acc s → wpR (lcL G g c elt ρ ds s) (fun ys s => Q (acc ++ ys) s) (fun _ _ => False) := by
    intro ds
    induction ds with
    | nil =>
      intro acc s h
      obtain ⟨h1, h2⟩ := hend acc s h
      unfold lcL
      rw [still_yes h1, wpR_ok, List.append_nil]
      exact h2
    | cons d ds ih =>
      intro acc s h
      obtain ⟨h1, h2⟩ := hstep d ds acc s h
      unfold lcL
      rw [still_yes h1, wpR_bnd, wpR_noX]
      refine wpR_mono h2 (fun ρ1 s1 h3 => ?_) fun _ _ z => z
      rw [wpR_bnd, wpR_noX]
      refine wpR_mono h3 (fun k s2 h4 => ?_) fun _ _ z => z
      cases k with
      | false => exact ih acc s2 h4
      | true =>
        rw [if_pos rfl] at h4 ⊢
        rw [wpR_bnd, wpR_noX]
        refine wpR_mono h4 (fun y s3 h5 => ?_) fun _ _ z => z
        rw [wpR_bnd]
        refine wpR_mono (ih (acc ++ [y]) s3 h5) (fun ys s4 h6 => ?_) fun _ _ z => z
        rw [wpR_ok]
        simpa using h6
  intro ds s h
  exact wpR_imp (key ds [] s h) fun ys s q => by simpa using q
/-- a comprehension that changes nothing -/
theorem lcL_pure {g : MG} {c : MT} {elt : ME} {ρ : Env} {s : Sto} (f : D → Option D) : ∀ {ds : List D},
    (∀ d ∈ ds, ∃ ρ1, g d ρ s = some (.ok ρ1 s) ∧ match f d with
      | some y => c ρ1 s = some (.ok true s) ∧ elt ρ1 s = some (.ok y s)
      | none => c ρ1 s = some (.ok false s)) → lcL any_ g c elt ρ ds s = some (.ok (ds.filterMap f) s)
  | [], _ => by simp [lcL]
  | d :: ds, h => by
    obtain ⟨ρ1, h1, h2⟩ := h d (List.mem_cons_self)
    have ih := lcL_pure (g := g) (c := c) (elt := elt) (ρ := ρ) (s := s) f (ds := ds) fun d hd => h d (List.mem_cons_of_mem _ hd)
    unfold lcL
    rw [still_any, h1, noX_ok, bnd_ok]
    cases hf : f d with
    | none =>
      rw [hf] at h2
      dsimp only at h2
      rw [h2, noX_ok, bnd_ok, if_neg (by simp), ih, List.filterMap_cons, hf]
    | some y =>
      rw [hf] at h2
      obtain ⟨h2, h3⟩ := h2
      rw [h2, noX_ok, bnd_ok, if_pos rfl, h3, noX_ok, bnd_ok, ih, bnd_ok, List.filterMap_cons, hf]
/-! ### defs -/
def pad : Nat → List D → Env
  | 0, _ => []
  | n + 1, [] => none :: pad n []
  | n + 1, d :: ds => some d :: pad n ds
theorem pad_nil : ∀ n, pad n [] = List.replicate n none
  | 0 => rfl
  | n + 1 => by rw [pad, pad_nil n, List.replicate_succ]
theorem pad_eq : ∀ (n : Nat) (ds : List D), ds.length ≤ n → ds.map some ++ List.replicate (n - ds.length) none = pad n ds
  | n, [], _ => by simp [pad_nil]
  | 0, _ :: _, h => by simp at h
  | n + 1, d :: ds, h => by
    have h2 : ds.length ≤ n := by simpa using h
    simp only [pad, List.map_cons, List.length_cons, List.cons_append, List.cons.injEq, true_and]
    rw [← pad_eq n ds h2, show n + 1 - (ds.length + 1) = n - ds.length by omega]
theorem wp_fn {n : Nat} {body : MS} {ds : List D} {s : Sto} {Q : D → Sto → Prop} {E : XP} (hl : ds.length ≤ n) (h : wpS (body (pad n ds) s) (fun _ s => Q .non s) Q (fun _ _ => False) (fun _ _ => False) (fun x _ s => E x s)) : wpR (fnM n body ds s) Q E := by
  unfold fnM
  rw [if_pos hl, pad_eq n ds hl]
  obtain ⟨h⟩ := h
  refine ⟨?_⟩
  cases hb : body (pad n ds) s with
  | none => rw [hb] at h; exact h
  | some f => rw [hb] at h; cases f <;> exact h
/-- a def that gives back what is reckoned -/
theorem fn_eq {n : Nat} {body : MS} {ds : List D} {s s' : Sto} {d : D} (hl : ds.length ≤ n) (h : body (pad n ds) s = some (.rt d s')) : fnM n body ds s = some (.ok d s') := by
  unfold fnM
  rw [if_pos hl, pad_eq n ds hl, h]
end MP

set_option Elab.async false
set_option linter.all false
set_option maxRecDepth 100000
set_option maxHeartbeats 4000000
/-! PL2: operations on plain values -/
namespace MP
open PySem L2
theorem beq_dec {α : Type} [BEq α] [LawfulBEq α] [DecidableEq α] (x y : α) : (x == y) = decide (x = y) := by rw [Bool.eq_iff_iff]; simp
section
variable {s : Sto} {i j : Int} {a b : Str}
theorem fAdd_int : fAdd s (.int i) (.int j) = some (.int (i + j)) := id rfl
theorem fSub_int : fSub s (.int i) (.int j) = some (.int (i - j)) := id rfl
theorem fMul_int (h : cMul i j = true) : fMul s (.int i) (.int j) = some (.int (i * j)) := if_pos h
theorem cMul_l (h1 : -(2 ^ 64) < i) (h2 : i < 2 ^ 64) : cMul i j = true := by simp [cMul]; omega
theorem cMul_r (h1 : -(2 ^ 64) < j) (h2 : j < 2 ^ 64) : cMul i j = true := by simp [cMul]; omega
theorem fMod_int (h : 0 < j) : fMod s (.int i) (.int j) = some (.int (i % j)) := if_pos (by simpa using h)
theorem fDiv_int (h : 0 < j) (h2 : j < 1073741824) : fDiv s (.int i) (.int j) = some (.int (i / j)) := if_pos (by simp [cDiv, h, h2])
theorem fPow_int (h : 0 ≤ j) (h1 : j ≤ 1000000) (h2 : i.natAbs < 2 ^ 64) : fPow s (.int i) (.int j) = some (.int (i ^ j.toNat)) := if_pos (by simp [cPow, h, h1, h2])
theorem fLt_int : fLt s (.int i) (.int j) = some (.bl (decide (i < j))) := id rfl
theorem fLe_int : fLe s (.int i) (.int j) = some (.bl (decide (i ≤ j))) := id rfl
theorem fGt_int : fGt s (.int i) (.int j) = some (.bl (decide (j < i))) := id rfl
theorem fGe_int : fGe s (.int i) (.int j) = some (.bl (decide (j ≤ i))) := id rfl
theorem fNeg_int : fNeg s (.int i) = some (.int (-i)) := id rfl
theorem fEq_int : fEq s (.int i) (.int j) = some (.bl (decide (i = j))) := by
  unfold fEq eqD
  simp only [pyS, D.py]
  rw [if_pos (by simp [SeqAt.shaped, PyData.canLay0, PyData.depth])]
  simp [PyData.eqv, beq_dec]
theorem fNe_int : fNe s (.int i) (.int j) = some (.bl (!decide (i = j))) := by
  unfold fNe eqD
  simp only [pyS, D.py]
  rw [if_pos (by simp [SeqAt.shaped, PyData.canLay0, PyData.depth])]
  simp [PyData.eqv, beq_dec]
theorem fEq_str (ha : PyData.strOk a = true) (hb : PyData.strOk b = true) : fEq s (.str a) (.str b) = some (.bl (decide (a = b))) := by
  unfold fEq eqD
  simp only [pyS, D.py]
  rw [if_pos (by simp [SeqAt.shaped, PyData.canLay0, PyData.depth, ha, hb])]
  simp [PyData.eqv, beq_dec]
theorem fNe_str (ha : PyData.strOk a = true) (hb : PyData.strOk b = true) : fNe s (.str a) (.str b) = some (.bl (!decide (a = b))) := by
  unfold fNe eqD
  simp only [pyS, D.py]
  rw [if_pos (by simp [SeqAt.shaped, PyData.canLay0, PyData.depth, ha, hb])]
  simp [PyData.eqv, beq_dec]
theorem pyL_ints : ∀ l : List Int, pyL (l.map D.int) = some (l.map PyData.int)
  | [] => rfl
  | i :: l => by simp only [List.map_cons, pyL, D.py, pyL_ints l]
theorem lay_ints : ∀ l : List Int, PyData.canLayAll0 (l.map PyData.int) = true ∧ PyData.depthAll (l.map PyData.int) = 0
  | [] => ⟨rfl, rfl⟩
  | i :: l => by simp [PyData.canLayAll0, PyData.canLay0, PyData.depthAll, PyData.depth, lay_ints l]
theorem fNe_ints_nil {n : Nat} {l : List Int} (h : s[n]? = some (.lst (l.map .int))) : fNe s (.ref n) (.lst []) = some (.bl (!l.isEmpty)) := by
  unfold fNe eqD
  simp only [pyS, D.py, h, pyL_ints, pyL, Option.map_some]
  rw [if_pos (by simp [SeqAt.shaped, PyData.canLay0, PyData.depth, lay_ints, PyData.canLayAll0, PyData.depthAll])]
  cases l <;> simp [PyData.eqv, PyData.eqvAll]
theorem atI_nat {α : Type} {l : List α} {n : Nat} {x : α} (h : l[n]? = some x) : atI l (n : Int) = some x := by
  have hl := (List.getElem?_eq_some_iff.mp h).1
  unfold atI ixN
  rw [if_pos (Int.natCast_nonneg n), if_pos (by omega)]
  simpa using h
end
/-! ### the spring of draws -/
structure Sp0 where
  l : List Int
  a : Int
  b : Int
  c : Int
def stm (q : Sp0) (t : Sto) : Sto := .lst (q.l.map .int) :: .lst [.ref 0, .int q.a, .int q.b, .int q.c] :: t
structure Sp0.Ok (q : Sp0) : Prop where
  a : 0 ≤ q.a
  b : 0 ≤ q.b
  c : 0 ≤ q.c
  c2 : q.c < 2147483647
end MP

set_option Elab.async false
set_option linter.all false
set_option maxRecDepth 100000
set_option maxHeartbeats 4000000
/-! PL3: wp of each combinator, as equations at the head -/
namespace MP
open PySem L2
def vpO {α : Type} (o : Option α) (Q : α → Prop) : Prop := match o with
  | some a => Q a
  | none => False
structure wpO {α : Type} (o : Option α) (Q : α → Prop) (t : Tg Q := Unit.unit) : Prop where
  h : vpO o Q
structure wpB (k : Bool) (a b : Prop) (t : Tg (a, b) := Unit.unit) : Prop where
  h : if k = true then a else b
structure wpI (c : Prop) (a : Prop) (t : Tg a := Unit.unit) : Prop where
  l : c
  r : a
theorem wpO_def {α : Type} {o : Option α} {Q : α → Prop} : wpO o Q = vpO o Q := propext ⟨fun z => z.h, fun z => ⟨z⟩⟩
theorem wpB_def {k : Bool} {a b : Prop} : wpB k a b = if k = true then a else b := propext ⟨fun z => z.h, fun z => ⟨z⟩⟩
theorem wpI_def {c a : Prop} : wpI c a = (c ∧ a) := propext ⟨fun z => ⟨z.l, z.r⟩, fun z => ⟨z.1, z.2⟩⟩
local macro_rules | `(tactic| walk_at "wpy") => `(tactic| first | rfl | (simp only [wpR_def, wpS_def, wpO_def, wpB_def, wpI_def]; rfl) | (simp only [wpR_def, wpS_def, wpO_def, wpB_def, wpI_def]; done))
theorem wpO_ext {α : Type} {x : Option α} {Q Q' : α → Prop} (h : ∀ a, Q a = Q' a) : wpO x Q = wpO x Q' := by
  obtain rfl : Q = Q' := funext h
  walk_at "wpy"
theorem wpI_ext {c a b : Prop} (h : a = b) : wpI c a = wpI c b := by rw [h]
theorem wpO_some {α : Type} {a : α} {Q : α → Prop} : wpO (some a) Q = Q a := wpO_def
theorem wpO_none {α : Type} {Q : α → Prop} : wpO (none : Option α) Q = False := wpO_def
theorem wpB_true {a b : Prop} : wpB true a b = a := by rw [wpB_def]; rfl
theorem wpB_false {a b : Prop} : wpB false a b = b := by rw [wpB_def]; rfl
theorem wpB_not {k : Bool} {a b : Prop} : wpB (!k) a b = wpB k b a := by rw [wpB_def, wpB_def]; cases k <;> walk_at "wpy"
theorem wpB_dec_true {p : Prop} [Decidable p] {a b : Prop} (h : p) : wpB (decide p) a b = a := by rw [decide_eq_true h, wpB_true]
theorem wpI_true {a : Prop} : wpI True a = a := by rw [wpI_def]; simp
theorem wpB_intro {k : Bool} {a b : Prop} (h1 : k = true → a) (h2 : k = false → b) : wpB k a b := by
  cases k with
  | true => rw [wpB_true]; exact h1 rfl
  | false => rw [wpB_false]; exact h2 rfl
theorem wpB_dec {p : Prop} [Decidable p] {a b : Prop} (h1 : p → a) (h2 : ¬p → b) : wpB (decide p) a b := wpB_intro (fun h => h1 (of_decide_eq_true h)) fun h => h2 (of_decide_eq_false h)
theorem wpB_pos {k : Bool} {a b : Prop} (h : k = true) (q : a) : wpB k a b := by subst h; first | (rw [wpB_true]; exact q) | (rw [wpB_false]; exact q)
theorem wpB_neg {k : Bool} {a b : Prop} (h : k = false) (q : b) : wpB k a b := by subst h; first | (rw [wpB_true]; exact q) | (rw [wpB_false]; exact q)
theorem wpO_get {α : Type} {o : Option α} {a : α} {Q : α → Prop} (h : o = some a) (q : Q a) : wpO o Q := by rw [h, wpO_some]; exact q
theorem wpO_mono {α : Type} {o : Option α} {Q Q' : α → Prop} (h : wpO o Q) (q : ∀ a, Q a → Q' a) : wpO o Q' := by
  obtain ⟨h⟩ := h
  refine ⟨?_⟩
  cases o with
  | none => exact h
  | some a => exact q a h
theorem wpI_intro {c a : Prop} (h : c) (q : a) : wpI c a := ⟨h, q⟩
section
variable {E : XP}
theorem wpR_cond {α : Type} {p : Prop} [Decidable p] {x : RO α} {Q : α → Sto → Prop} : wpR (if p then x else none) Q E = wpI p (wpR x Q E) := by
  by_cases h : p
  · rw [if_pos h, wpI_def]; simp [h]
  · rw [if_neg h, wpI_def]; simp [h]
theorem wpR_ite {α : Type} {k : Bool} {x y : RO α} {Q : α → Sto → Prop} : wpR (if k = true then x else y) Q E = wpB k (wpR x Q E) (wpR y Q E) := by cases k <;> walk_at "wpy"
end
section
variable {N : Env → Sto → Prop} {Rt : D → Sto → Prop} {B C : Env → Sto → Prop} {E : Xc → Env → Sto → Prop}
theorem wpS_ite {k : Bool} {x y : Option F} : wpS (if k = true then x else y) N Rt B C E = wpB k (wpS x N Rt B C E) (wpS y N Rt B C E) := by cases k <;> walk_at "wpy"
end
section
variable {α : Type} {Q : α → Sto → Prop} {E : XP} {s : Sto}
theorem wpR_ofO {o : Option α} : wpR (ofO o s) Q E = wpO o (fun a => Q a s) := by cases o <;> walk_at "wpy"
end
local macro_rules | `(tactic| walk_at "wpx") => `(tactic| repeat (first | rfl | simp only [wpR_bnd, wpR_ofO, wpR_ok, wpR_cond, wpR_ite, wpS_bnd, wpS_nx, wpS_rt, wpS_ite] | refine wpR_ext fun _ _ => ?_ | refine wpI_ext ?_ | refine wpO_ext fun _ => ?_ | (simp only [wpR_def, wpS_def, wpO_def, wpB_def, wpI_def]; rfl)))
def asB : D → Option Bool
  | .bl b => some b
  | _ => none
def asI : D → Option Int
  | .int i => some i
  | _ => none
def asT : D → Option (List D)
  | .tup l => some l
  | _ => none
def asS : D → Option Str
  | .str z => some z
  | _ => none
def two : List D → Option (D × D)
  | [x, y] => some (x, y)
  | _ => none
def three : List D → Option (D × D × D)
  | [x, y, z] => some (x, y, z)
  | _ => none
theorem asB_bl {b : Bool} : asB (.bl b) = some b := id rfl
theorem asI_int {i : Int} : asI (.int i) = some i := id rfl
theorem asT_tup {l : List D} : asT (.tup l) = some l := id rfl
theorem asS_str {z : Str} : asS (.str z) = some z := id rfl
theorem two_two {x y : D} : two [x, y] = some (x, y) := id rfl
theorem three_three {x y z : D} : three [x, y, z] = some (x, y, z) := id rfl
section
variable {ρ : Env} {s : Sto} {i j l : Nat} {a b c : ME} {r : MA} {m : MT} {m2 : MT} {f : Sto → D → D → Option D} {g : Sto → D → Option D} {Q : D → Sto → Prop} {QA : List D → Sto → Prop} {QT : Bool → Sto → Prop} {E : XP}
theorem wp_mVar : wpR (mVar i ρ s) Q E = wpO ρ[i]? (fun o => wpO o fun d => Q d s) := by
  unfold mVar
  cases h : ρ[i]? with
  | none => walk_at "wpy"
  | some o => cases o <;> walk_at "wpy"
theorem wp_mC {d : D} : wpR (mC d ρ s) Q E = Q d s := wpR_ok
theorem wp_mOp : wpR (mOp f a b ρ s) Q E = wpR (a ρ s) (fun x s => wpR (b ρ s) (fun y s => wpO (f s x y) fun d => Q d s) E) E := by
  unfold mOp; walk_at "wpx"
theorem wp_mUn : wpR (mUn g a ρ s) Q E = wpR (a ρ s) (fun x s => wpO (g s x) fun d => Q d s) E := by
  unfold mUn; walk_at "wpx"
theorem wp_mNil : wpR (mNil ρ s) QA E = QA [] s := wpR_ok
theorem wp_mCons : wpR (mCons a r ρ s) QA E = wpR (a ρ s) (fun x s => wpR (r ρ s) (fun xs s => QA (x :: xs) s) E) E := by
  unfold mCons; walk_at "wpx"
theorem wp_mStar : wpR (mStar a r ρ s) QA E = wpR (a ρ s) (fun x s => wpO (items? s x) fun ys => wpR (r ρ s) (fun xs s => QA (ys ++ xs) s) E) E := by
  unfold mStar; walk_at "wpx"
theorem wp_mTup : wpR (mTup r ρ s) Q E = wpR (r ρ s) (fun xs s => wpI (xs.length ≤ 16777216) (Q (.tup xs) s)) E := by
  unfold mTup; walk_at "wpx"
theorem wp_mLst : wpR (mLst r ρ s) Q E = wpR (r ρ s) (fun xs s => wpI (xs.length ≤ 16777216) (Q (.lst xs) s)) E := by
  unfold mLst; walk_at "wpx"
theorem wp_mLstB : wpR (mLstB r ρ s) Q E = wpR (r ρ s) (fun xs s => wpI (xs.length ≤ 16777216) (Q (.ref s.length) (s ++ [.lst xs]))) E := by
  unfold mLstB; walk_at "wpx"
theorem wp_mIfE : wpR (mIfE m a b ρ s) Q E = wpR (m ρ s) (fun k s => wpB k (wpR (a ρ s) Q E) (wpR (b ρ s) Q E)) E := by
  unfold mIfE; walk_at "wpx"
theorem wp_mTst : wpR (mTst a ρ s) QT E = wpR (a ρ s) (fun x s => wpO (asB x) fun k => QT k s) E := by
  unfold mTst
  rw [wpR_bnd]
  refine wpR_ext fun x s => ?_
  cases x <;> walk_at "wpy"
theorem wp_mNot : wpR (mNot m ρ s) QT E = wpR (m ρ s) (fun k s => QT (!k) s) E := by
  unfold mNot; walk_at "wpx"
theorem wp_mAnd : wpR (mAnd m m2 ρ s) QT E = wpR (m ρ s) (fun k s => wpB k (wpR (m2 ρ s) QT E) (QT false s)) E := by
  unfold mAnd; walk_at "wpx"
theorem wp_mOr : wpR (mOr m m2 ρ s) QT E = wpR (m ρ s) (fun k s => wpB k (QT true s) (wpR (m2 ρ s) QT E)) E := by
  unfold mOr; walk_at "wpx"
theorem wp_mAndV : wpR (mAndV a b ρ s) Q E = wpR (a ρ s) (fun x s => wpO (asB x) fun k => wpB k (wpR (b ρ s) Q E) (Q (.bl false) s)) E := by
  unfold mAndV
  rw [wpR_bnd]
  refine wpR_ext fun x s => ?_
  cases x with
  | bl k => cases k <;> walk_at "wpy"
  | _ => walk_at "wpy"
theorem wp_mOrV : wpR (mOrV a b ρ s) Q E = wpR (a ρ s) (fun x s => wpO (asB x) fun k => wpB k (Q (.bl true) s) (wpR (b ρ s) Q E)) E := by
  unfold mOrV
  rw [wpR_bnd]
  refine wpR_ext fun x s => ?_
  cases x with
  | bl k => cases k <;> walk_at "wpy"
  | _ => walk_at "wpy"
theorem wp_mNotV : wpR (mNotV a ρ s) Q E = wpR (a ρ s) (fun x s => wpO (asB x) fun k => Q (.bl !k) s) E := by
  unfold mNotV
  rw [wpR_bnd]
  refine wpR_ext fun x s => ?_
  cases x <;> walk_at "wpy"
theorem wp_mChain {f f' : Sto → D → D → Option Bool} : wpR (mChain f f' a b c ρ s) Q E = wpR (a ρ s) (fun x s => wpR (b ρ s) (fun y s => wpO (f s x y) fun k => wpB k (wpR (c ρ s) (fun z s => wpO (f' s y z) fun k => Q (.bl k) s) E) (Q (.bl false) s)) E) E := by
  unfold mChain
  rw [wpR_bnd]
  refine wpR_ext fun x s => ?_
  rw [wpR_bnd]
  refine wpR_ext fun y s => ?_
  cases h : f s x y with
  | none => walk_at "wpy"
  | some k => cases k with
    | false => walk_at "wpy"
    | true =>
      dsimp only
      rw [wpR_bnd]
      rw [wpO_some, wpB_true]
      refine wpR_ext fun z s => ?_
      cases h : f' s y z <;> walk_at "wpy"
theorem cI_int {g : Int → Int → Bool} {i j : Int} : cI g s (.int i) (.int j) = some (g i j) := id rfl
theorem wp_mCall {f : FM} : wpR (mCall f r ρ s) Q E = wpR (r ρ s) (fun ds s => wpR (f ds s) Q E) E := by
  unfold mCall; walk_at "wpx"
theorem wpR_opt {o : Option (D × Sto)} : wpR (match o with
  | some (d, s') => some (.ok d s')
  | none => none) Q E = wpO o (fun p => Q p.1 p.2) := by cases o <;> walk_at "wpy"
theorem wp_mCallB {f : Sto → List D → Option (D × Sto)} : wpR (mCallB f r ρ s) Q E = wpR (r ρ s) (fun ds s => wpO (f s ds) fun p => Q p.1 p.2) E := by
  unfold mCallB
  rw [wpR_bnd]
  refine wpR_ext fun ds s => ?_
  cases f s ds <;> walk_at "wpy"
theorem wp_mCallP {f : Sto → List D → Option D} : wpR (mCallB (pu f) r ρ s) Q E = wpR (r ρ s) (fun ds s => wpO (f s ds) fun d => Q d s) E := by
  rw [wp_mCallB]
  refine wpR_ext fun ds s => ?_
  unfold pu
  cases f s ds <;> walk_at "wpy"
theorem wpO_pu {f : Sto → List D → Option D} {ds : List D} {Q : D × Sto → Prop} : wpO (pu f s ds) Q = wpO (f s ds) (fun d => Q (d, s)) := by
  unfold pu
  cases f s ds <;> walk_at "wpy"
theorem wp_mBm {ty : Sto → D → Bool} {f : Sto → D → List D → Option (D × Sto)} : wpR (mBm ty f a r ρ s) Q E = wpR (a ρ s) (fun x s => wpI (ty s x = true) (wpR (r ρ s) (fun ds s => wpO (f s x ds) fun p => Q p.1 p.2) E)) E := by
  unfold mBm
  rw [wpR_bnd]
  refine wpR_ext fun x s => ?_
  rw [wpR_cond]
  refine wpI_ext ?_
  rw [wpR_bnd]
  refine wpR_ext fun ds s => ?_
  cases f s x ds <;> walk_at "wpy"
theorem wp_mBm0 {ty : Sto → D → Bool} {f : Sto → D → List D → Option (D × Sto)} : wpR (mBm0 ty f a ρ s) Q E = wpR (a ρ s) (fun x s => wpI (ty s x = true) (wpO (f s x []) fun p => Q p.1 p.2)) E := by
  unfold mBm0
  rw [wpR_bnd]
  refine wpR_ext fun x s => ?_
  rw [wpR_cond]
  refine wpI_ext ?_
  cases f s x [] <;> walk_at "wpy"
theorem wp_moN {QO : Option Int → Sto → Prop} : wpR (moN ρ s) QO E = QO none s := wpR_ok
theorem wp_moS {QO : Option Int → Sto → Prop} : wpR (moS a ρ s) QO E = wpR (a ρ s) (fun x s => wpO (asI x) fun i => QO (some i) s) E := by
  unfold moS
  rw [wpR_bnd]
  refine wpR_ext fun x s => ?_
  cases x <;> walk_at "wpy"
theorem wp_mSl {lo hi : MO} : wpR (mSl a lo hi ρ s) Q E = wpR (a ρ s) (fun x s => wpR (lo ρ s) (fun l s => wpR (hi ρ s) (fun h s => wpO (fSl s x l h) fun d => Q d s) E) E) E := by
  unfold mSl; walk_at "wpx"
theorem wp_mIsi {f : Kd → Option Bool} : wpR (mIsi f a ρ s) Q E = wpR (a ρ s) (fun x s => wpO ((kdD s x).bind f) fun k => Q (.bl k) s) E := by
  unfold mIsi
  rw [wpR_bnd]
  refine wpR_ext fun x s => ?_
  cases (kdD s x).bind f <;> walk_at "wpy"
theorem wp_mTab {T : List (Str × Str)} : wpR (mTab T a ρ s) Q E = wpR (a ρ s) (fun x s => wpO ((asS x).bind fun z => T.lookup z) fun v => Q (.str v) s) E := by
  unfold mTab
  rw [wpR_bnd]
  refine wpR_ext fun x s => ?_
  cases x with
  | str z =>
    dsimp only [asS, Option.bind_some]
    cases T.lookup z <;> walk_at "wpy"
  | _ => walk_at "wpy"
theorem wp_mTabIn {T : List (Str × Str)} : wpR (mTabIn T a ρ s) Q E = wpR (a ρ s) (fun x s => wpO (asS x) fun z => Q (.bl (T.lookup z).isSome) s) E := by
  unfold mTabIn
  rw [wpR_bnd]
  refine wpR_ext fun x s => ?_
  cases x <;> walk_at "wpy"
theorem wp_mTabNotIn {T : List (Str × Str)} : wpR (mTabNotIn T a ρ s) Q E = wpR (a ρ s) (fun x s => wpO (asS x) fun z => Q (.bl !(T.lookup z).isSome) s) E := by
  unfold mTabNotIn
  rw [wpR_bnd]
  refine wpR_ext fun x s => ?_
  cases x <;> walk_at "wpy"
def dg? (s : Sto) (x y : D) : Option D := (dct? s x).bind fun l => (key? y).bind fun k => getK l k
theorem wp_mDGet : wpR (mDGet a b ρ s) Q E = wpR (a ρ s) (fun x s => wpR (b ρ s) (fun y s => wpO (dg? s x y) fun d => Q d s) E) E := by
  unfold mDGet dg?
  rw [wpR_bnd]
  refine wpR_ext fun x s => ?_
  rw [wpR_bnd]
  refine wpR_ext fun y s => ?_
  cases dct? s x with
  | none => walk_at "wpy"
  | some l => cases key? y with
    | none => walk_at "wpy"
    | some k =>
      dsimp only [Option.bind_some]
      rw [wpR_ofO]
def dg2? (s : Sto) (x y z : D) : Option D := (dct? s x).bind fun l => (key? y).map fun k => (getK l k).getD z
theorem wp_mDGet2 : wpR (mDGet2 a b c ρ s) Q E = wpR (a ρ s) (fun x s => wpI ((dct? s x).isSome = true) (wpR (b ρ s) (fun y s => wpR (c ρ s) (fun z s => wpO (dg2? s x y z) fun d => Q d s) E) E)) E := by
  unfold mDGet2 dg2?
  rw [wpR_bnd]
  refine wpR_ext fun x s => ?_
  rw [wpR_cond]
  refine wpI_ext ?_
  rw [wpR_bnd]
  refine wpR_ext fun y s => ?_
  rw [wpR_bnd]
  refine wpR_ext fun z s => ?_
  cases dct? s x with
  | none => walk_at "wpy"
  | some l => cases key? y <;> walk_at "wpy"
theorem wp_mDNew : wpR (mDNew ρ s) Q E = Q (.ref s.length) (s ++ [.dct []]) := wpR_ok
theorem wp_mSortSet : wpR (mSortSet a ρ s) Q E = wpR (a ρ s) (fun x s => wpO (txtsOf s x) fun ss => Q (.lst ((srt (ddS ss)).map .str)) s) E := by
  unfold mSortSet
  rw [wpR_bnd]
  refine wpR_ext fun x s => ?_
  cases txtsOf s x <;> walk_at "wpy"
theorem wp_mSortSetB : wpR (mSortSetB a ρ s) Q E = wpR (a ρ s) (fun x s => wpO (txtsOf s x) fun ss => Q (.ref s.length) (s ++ [.lst ((srt (ddS ss)).map .str)])) E := by
  unfold mSortSetB
  rw [wpR_bnd]
  refine wpR_ext fun x s => ?_
  cases txtsOf s x <;> walk_at "wpy"
theorem wp_mLenSet : wpR (mLenSet a ρ s) Q E = wpR (a ρ s) (fun x s => wpO (txtsOf s x) fun ss => Q (.int (ddS ss).length) s) E := by
  unfold mLenSet
  rw [wpR_bnd]
  refine wpR_ext fun x s => ?_
  cases txtsOf s x <;> walk_at "wpy"
theorem wp_mFrz : wpR (mFrz a ρ s) Q E = wpR (a ρ s) (fun x s => wpO (box? s x) fun nl => Q (.lst nl.2) (s.set nl.1 .gone)) E := by
  unfold mFrz
  rw [wpR_bnd]
  refine wpR_ext fun x s => ?_
  cases x with
  | ref n =>
    dsimp only [box?]
    cases h : s[n]? with
    | none => walk_at "wpy"
    | some o => cases o <;> walk_at "wpy"
  | _ => walk_at "wpy"
theorem wp_mFld {C f : Str} : wpR (mFld C f a ρ s) Q E = wpR (a ρ s) (fun x s => wpO ((ins? s C x).bind fun nf => nf.2.lookup f) fun d => Q d s) E := by
  unfold mFld
  rw [wpR_bnd]
  refine wpR_ext fun x s => ?_
  cases ins? s C x with
  | none => walk_at "wpy"
  | some nf =>
    dsimp only [Option.bind_some]
    rw [wpR_ofO]
theorem wp_mMeth {C m : Str} {fm : FM} : wpR (mMeth C m fm a r ρ s) Q E = wpR (a ρ s) (fun x s => wpO (ins? s C x) fun nf => wpI ((nf.2.lookup m).isNone = true) (wpR (r ρ s) (fun ds s => wpR (fm (x :: ds) s) Q E) E)) E := by
  unfold mMeth
  rw [wpR_bnd]
  refine wpR_ext fun x s => ?_
  cases ins? s C x with
  | none => walk_at "wpy"
  | some nf =>
    dsimp only
    rw [wpR_cond, wpR_bnd]
    walk_at "wpy"
def isNon : D → Prop
  | .non => True
  | _ => False
theorem isNon_non : isNon .non = True := id rfl
theorem wp_mMake {C : Str} {fm : FM} : wpR (mMake C fm r ρ s) Q E = wpR (r ρ s) (fun ds s => wpR (fm (.ref s.length :: ds) (s ++ [.ins C []])) (fun d s' => wpI (isNon d) (Q (.ref s.length) s')) E) E := by
  unfold mMake
  rw [wpR_bnd]
  refine wpR_ext fun ds s => ?_
  cases fm (.ref s.length :: ds) (s ++ [.ins C []]) with
  | none => walk_at "wpy"
  | some x => cases x with
    | ex e s' => walk_at "wpy"
    | ok d s' => cases d with
      | non => rw [wpR_ok]; simp only [isNon_non, wpI_true, wpR_ok]
      | _ => simp [wpI_def, isNon]
theorem wp_mLenO {C : Str} {fm : FM} : wpR (mLenO C fm a ρ s) Q E = wpR (a ρ s) (fun x s => wpI ((ins? s C x).isSome = true) (wpR (fm [x] s) (fun d s => wpO (asI d) fun i => wpI (0 ≤ i ∧ i < 2 ^ 63) (Q (.int i) s)) E)) E := by
  unfold mLenO
  rw [wpR_bnd]
  refine wpR_ext fun x s => ?_
  cases ins? s C x with
  | none => simp [wpI_def]
  | some nf =>
    simp only [Option.isSome_some, wpI_true]
    rw [wpR_bnd]
    refine wpR_ext fun d s => ?_
    cases d with
    | int i => show wpR (if _ then _ else none) _ _ = _; rw [wpR_cond, wpR_ok, asI_int, wpO_some]
    | _ => walk_at "wpy"
theorem wp_mEqO {C : Str} {ok : Kd → Bool} {fm : FM} : wpR (mEqO C ok fm a b ρ s) Q E = wpR (a ρ s) (fun x s => wpR (b ρ s) (fun y s => wpI ((ins? s C x).isSome = true) (wpO (kdD s y) fun k => wpI (ok k = true) (wpR (fm [x, y] s) (fun d s => wpO (asB d) fun k => Q (.bl k) s) E))) E) E := by
  unfold mEqO
  rw [wpR_bnd]
  refine wpR_ext fun x s => ?_
  rw [wpR_bnd]
  refine wpR_ext fun y s => ?_
  cases ins? s C x with
  | none => simp [wpI_def]
  | some nf =>
    simp only [Option.isSome_some, wpI_true]
    cases kdD s y with
    | none => walk_at "wpy"
    | some k =>
      dsimp only
      rw [wpR_cond, wpO_some]
      refine wpI_ext ?_
      rw [wpR_bnd]
      refine wpR_ext fun d s => ?_
      cases d <;> walk_at "wpy"
theorem wp_mNeO {C : Str} {ok : Kd → Bool} {fm : FM} : wpR (mNeO C ok fm a b ρ s) Q E = wpR (a ρ s) (fun x s => wpR (b ρ s) (fun y s => wpI ((ins? s C x).isSome = true) (wpO (kdD s y) fun k => wpI (ok k = true) (wpR (fm [x, y] s) (fun d s => wpO (asB d) fun k => Q (.bl !k) s) E))) E) E := by
  unfold mNeO
  rw [wpR_bnd]
  refine wpR_ext fun x s => ?_
  rw [wpR_bnd]
  refine wpR_ext fun y s => ?_
  cases ins? s C x with
  | none => simp [wpI_def]
  | some nf =>
    simp only [Option.isSome_some, wpI_true]
    cases kdD s y with
    | none => walk_at "wpy"
    | some k =>
      dsimp only
      rw [wpR_cond, wpO_some]
      refine wpI_ext ?_
      rw [wpR_bnd]
      refine wpR_ext fun d s => ?_
      cases d <;> walk_at "wpy"
variable {mi : MI} {g : MG} {vs : List Nat} {QI : List D × (Sto → Prop) → Sto → Prop}
theorem wp_mLc : wpR (mLc mi vs g m a ρ s) Q E = wpR (mi ρ s) (fun src s => wpI (src.1.length ≤ 16777216) (wpR (lcL src.2 g m a (wipeE ρ vs) src.1 s) (fun ys s => Q (.lst ys) s) E)) E := by
  unfold mLc lcM; walk_at "wpx"
theorem wp_mLcB : wpR (mLcB mi vs g m a ρ s) Q E = wpR (mi ρ s) (fun src s => wpI (src.1.length ≤ 16777216) (wpR (lcL src.2 g m a (wipeE ρ vs) src.1 s) (fun ys s => Q (.ref s.length) (s ++ [.lst ys])) E)) E := by
  unfold mLcB lcM; walk_at "wpx"
theorem wp_miSeq : wpR (miSeq a ρ s) QI E = wpR (a ρ s) (fun x s => wpO (seqOf s x) fun p => QI p s) E := by
  unfold miSeq; walk_at "wpx"
theorem wp_miRng : wpR (miRng r ρ s) QI E = wpR (r ρ s) (fun x s => wpO (rng? x) fun p => QI p s) E := by
  unfold miRng; walk_at "wpx"
theorem wp_miZip : wpR (miZip r ρ s) QI E = wpR (r ρ s) (fun x s => wpO (zip? s x) fun p => QI p s) E := by
  unfold miZip; walk_at "wpx"
theorem wp_miEnum : wpR (miEnum r ρ s) QI E = wpR (r ρ s) (fun x s => wpO (enum? s x) fun p => QI p s) E := by
  unfold miEnum; walk_at "wpx"
end
section
variable {d : D} {ds : List D} {ρ : Env} {s : Sto} {i : Nat} {g : MG} {gs : MGs} {QG : Env → Sto → Prop} {E : XP} {o k : ME}
theorem wp_gmName : wpR (gmName i d ρ s) QG E = QG (ρ.set i (some d)) s := wpR_ok
theorem wp_gmNil : wpR (gmNil [] ρ s) QG E = QG ρ s := wpR_ok
theorem wp_gmCons : wpR (gmCons g gs (d :: ds) ρ s) QG E = wpR (g d ρ s) (fun ρ s => wpR (gs ds ρ s) QG E) E := by
  unfold gmCons; walk_at "wpx"
theorem wp_gmTup : wpR (gmTup gs d ρ s) QG E = wpO (asT d) (fun l => wpR (gs l ρ s) QG E) := by
  unfold gmTup
  cases d <;> walk_at "wpy"
def sub? (s : Sto) (x : D) (j : Int) (d : D) : Option Sto := (box? s x).bind fun nl => (ixN nl.2.length j).map fun k => s.set nl.1 (.lst (nl.2.set k d))
theorem wp_gmSub : wpR (gmSub o k d ρ s) QG E = wpR (o ρ s) (fun x s => wpR (k ρ s) (fun y s => wpO (asI y) fun j => wpO (sub? s x j d) fun s => QG ρ s) (fun _ _ => False)) (fun _ _ => False) := by
  unfold gmSub sub?
  rw [wpR_bnd, wpR_noX]
  refine wpR_ext fun x s => ?_
  rw [wpR_bnd, wpR_noX]
  refine wpR_ext fun y s => ?_
  cases y with
  | int j =>
    simp only [asI, wpO_some]
    cases box? s x with
    | none => walk_at "wpy"
    | some nl =>
      dsimp only [Option.bind_some]
      cases ixN nl.2.length j <;> walk_at "wpy"
  | _ => walk_at "wpy"
end
section
variable {ρ : Env} {s : Sto} {i j l : Nat} {a b c : ME} {r : MA} {m : MT} {x y : MS} {g : MG} {mi : MI} {N : Env → Sto → Prop} {Rt : D → Sto → Prop} {B C : Env → Sto → Prop} {E : Xc → Env → Sto → Prop}
theorem wp_mSeq : wpS (mSeq x y ρ s) N Rt B C E = wpS (x ρ s) (fun ρ s => wpS (y ρ s) N Rt B C E) Rt B C E := by
  unfold mSeq; rw [wpS_then]
theorem wp_mNext : wpS (mNext ρ s) N Rt B C E = N ρ s := wpS_nx
theorem wp_mBrk : wpS (mBrk ρ s) N Rt B C E = B ρ s := wpS_bk
theorem wp_mCnt : wpS (mCnt ρ s) N Rt B C E = C ρ s := wpS_ct
theorem wp_mExpr : wpS (mExpr a ρ s) N Rt B C E = wpR (a ρ s) (fun _ s => N ρ s) (fun e s => E e ρ s) := by
  unfold mExpr; walk_at "wpx"
theorem wp_mRet : wpS (mRet a ρ s) N Rt B C E = wpR (a ρ s) Rt (fun e s => E e ρ s) := by
  unfold mRet; walk_at "wpx"
theorem wp_mRetN : wpS (mRetN ρ s) N Rt B C E = Rt .non s := wpS_rt
theorem wp_mIf : wpS (mIf m x y ρ s) N Rt B C E = wpR (m ρ s) (fun k s => wpB k (wpS (x ρ s) N Rt B C E) (wpS (y ρ s) N Rt B C E)) (fun e s => E e ρ s) := by
  unfold mIf; walk_at "wpx"
theorem wp_mSet : wpS (mSet i a ρ s) N Rt B C E = wpR (a ρ s) (fun d s => N (ρ.set i (some d)) s) (fun e s => E e ρ s) := by
  unfold mSet; walk_at "wpx"
theorem wp_mPar : wpS (mPar i j r ρ s) N Rt B C E = wpR (r ρ s) (fun ds s => wpO (two ds) fun p => N ((ρ.set i (some p.1)).set j (some p.2)) s) (fun e s => E e ρ s) := by
  unfold mPar
  rw [wpS_bnd]
  refine wpR_ext fun ds s => ?_
  match ds with
  | [] => walk_at "wpy"
  | [_] => walk_at "wpy"
  | [_, _] => walk_at "wpy"
  | _ :: _ :: _ :: _ => walk_at "wpy"
theorem wp_mPar3 : wpS (mPar3 i j l r ρ s) N Rt B C E = wpR (r ρ s) (fun ds s => wpO (three ds) fun p => N (((ρ.set i (some p.1)).set j (some p.2.1)).set l (some p.2.2)) s) (fun e s => E e ρ s) := by
  unfold mPar3
  rw [wpS_bnd]
  refine wpR_ext fun ds s => ?_
  match ds with
  | [] => walk_at "wpy"
  | [_] => walk_at "wpy"
  | [_, _] => walk_at "wpy"
  | [_, _, _] => walk_at "wpy"
  | _ :: _ :: _ :: _ :: _ => walk_at "wpy"
theorem wp_mAsg : wpS (mAsg a g ρ s) N Rt B C E = wpR (a ρ s) (fun d s => wpR (g d ρ s) N (fun e s => E e ρ s)) (fun e s => E e ρ s) := by
  unfold mAsg; walk_at "wpx"
theorem wp_mFor : wpS (mFor mi g x ρ s) N Rt B C E = wpR (mi ρ s) (fun src s => wpS (forL src.2 g x src.1 ρ s) N Rt B C E) (fun e s => E e ρ s) := by
  unfold mFor; walk_at "wpx"
def dput? (s : Sto) (x y d : D) : Option Sto := match x with
  | .ref n => (key? y).bind fun k => (match s[n]? with
    | some (.dct l) => if l.length < 16777216 then some (s.set n (.dct (putD l k d))) else none
    | _ => none)
  | _ => none
theorem wp_mDPut : wpS (mDPut a b c ρ s) N Rt B C E = wpR (a ρ s) (fun d s => wpR (b ρ s) (fun x s => wpR (c ρ s) (fun y s => wpO (dput? s x y d) fun s => N ρ s) (fun e s => E e ρ s)) (fun e s => E e ρ s)) (fun e s => E e ρ s) := by
  unfold mDPut dput?
  rw [wpS_bnd]
  refine wpR_ext fun d s => ?_
  rw [wpS_bnd]
  refine wpR_ext fun x s => ?_
  rw [wpS_bnd]
  refine wpR_ext fun y s => ?_
  cases x with
  | ref n =>
    cases key? y with
    | none => walk_at "wpy"
    | some k =>
      dsimp only [Option.bind_some]
      cases h : s[n]? with
      | none => walk_at "wpy"
      | some o => cases o with
        | dct l => dsimp only; split <;> walk_at "wpy"
        | _ => walk_at "wpy"
  | _ => cases key? y <;> walk_at "wpy"
def fput? (s : Sto) (C f : Str) (x d : D) : Option Sto := (ins? s C x).bind fun nf => if nf.2.length < 1000 then some (s.set nf.1 (.ins C (putFD f d nf.2))) else none
theorem wp_mFldSet {Cl f : Str} : wpS (mFldSet Cl f a b ρ s) N Rt B C E = wpR (b ρ s) (fun d s => wpR (a ρ s) (fun x s => wpO (fput? s Cl f x d) fun s => N ρ s) (fun e s => E e ρ s)) (fun e s => E e ρ s) := by
  unfold mFldSet fput?
  rw [wpS_bnd]
  refine wpR_ext fun d s => ?_
  rw [wpS_bnd]
  refine wpR_ext fun x s => ?_
  cases ins? s Cl x with
  | none => walk_at "wpy"
  | some nf => dsimp only [Option.bind_some]; split <;> walk_at "wpy"
end
/-- comprehensions, by wpB -/
theorem wp_mYes {ρ : Env} {s : Sto} {QT : Bool → Sto → Prop} {E : XP} : wpR (mYes ρ s) QT E = QT true s := wpR_ok
theorem wp_lcB {G : Sto → Prop} {g : MG} {c : MT} {elt : ME} {ρ : Env} {Q : List D → Sto → Prop} {E : XP} (Inv : List D → List D → Sto → Prop)
    (hstep : ∀ d ds acc s, Inv (d :: ds) acc s → G s ∧ wpR (g d ρ s) (fun ρ1 s => wpR (c ρ1 s) (fun k s => wpB k (wpR (elt ρ1 s) (fun y s => Inv ds (acc ++ [y]) s) (fun _ _ => False)) (Inv ds acc s)) (fun _ _ => False)) (fun _ _ => False))
    (hend : ∀ acc s, Inv [] acc s → G s ∧ Q acc s) {ds : List D} {s : Sto} (h0 : Inv ds [] s) : wpR (lcL G g c elt ρ ds s) Q E := by
  exact wp_lc Inv (fun d ds acc s h => let ⟨h1, h2⟩ := hstep d ds acc s h; ⟨h1, wpR_mono h2 (fun ρ1 s1 h3 => wpR_mono h3 (fun k s2 h4 => wpB_def ▸ h4) fun _ _ z => z) fun _ _ z => z⟩) hend h0
theorem wp_whileB {N : Env → Sto → Prop} {Rt : D → Sto → Prop} {B C : Env → Sto → Prop} {E : Xc → Env → Sto → Prop} {c : MT} {body : MS} (Inv : Nat → Env → Sto → Prop)
    (hstep : ∀ n ρ s, Inv n ρ s → wpR (c ρ s) (fun k s1 => wpB k (∃ m, n = m + 1 ∧ wpS (body ρ s1) (Inv m) Rt N (Inv m) E) (N ρ s1)) (fun e s => E e ρ s)) {n k : Nat} {ρ : Env} {s : Sto} (h0 : Inv n ρ s) (hk : n < k) : wpS (whileL c body k ρ s) N Rt B C E :=
  wp_while Inv (fun n ρ s h => wpR_mono (hstep n ρ s h) (fun k s2 h4 => wpB_def ▸ h4) fun _ _ z => z) h0 hk
end MP

set_option Elab.async false
set_option linter.all false
set_option maxRecDepth 100000
set_option maxHeartbeats 4000000
/-! PL4: the spring of draws in the store -/
namespace MP
open PySem L2
section
variable {q : Sp0} {t : Sto} {v : Int} {n : Nat} {o : Ob}
theorem stm_ix0 : fIx (stm q t) (.ref 1) (.int 0) = some (.ref 0) := id rfl
theorem stm_ix1 : fIx (stm q t) (.ref 1) (.int 1) = some (.int q.a) := id rfl
theorem stm_ix2 : fIx (stm q t) (.ref 1) (.int 2) = some (.int q.b) := id rfl
theorem stm_ix3 : fIx (stm q t) (.ref 1) (.int 3) = some (.int q.c) := id rfl
theorem stm_set1 : sub? (stm q t) (.ref 1) 1 (.int v) = some (stm { q with a := v } t) := id rfl
theorem stm_set2 : sub? (stm q t) (.ref 1) 2 (.int v) = some (stm { q with b := v } t) := id rfl
theorem stm_set3 : sub? (stm q t) (.ref 1) 3 (.int v) = some (stm { q with c := v } t) := id rfl
theorem stm_ne : fNe (stm q t) (.ref 0) (.lst []) = some (.bl (!q.l.isEmpty)) := fNe_ints_nil (n := 0) rfl
theorem stm_tyL0 : tyL (stm q t) (.ref 0) = true := id rfl
theorem stm_pop {x : Int} {l : List Int} (h : q.l = x :: l) : bPopAt (stm q t) (.ref 0) [.int 0] = some (.int x, stm { q with l := l } t) := by
  unfold bPopAt stm
  rw [h]
  simp only [box?, List.getElem?_cons_zero, Option.bind_some, List.map_cons, List.length_cons, List.set_cons_zero]
  have e : seqIndex? 0 ((l.map D.int).length + 1) = some 0 := by
    unfold seqIndex?
    simp
  rw [e]
  simp
theorem tyS_str {s : Sto} {z : Str} : tyS s (.str z) = true := id rfl
theorem gInt_int {s : Sto} {i : Int} : gInt s [.int i] = some (.int i) := id rfl
theorem stm_get : (stm q t)[n + 2]? = t[n]? := id rfl
theorem stm_len : (stm q t).length = t.length + 2 := id rfl
theorem stm_app : stm q t ++ [o] = stm q (t ++ [o]) := id rfl
theorem stm_apps {u : Sto} : stm q t ++ u = stm q (t ++ u) := id rfl
theorem stm_upd : (stm q t).set (n + 2) o = stm q (t.set n o) := id rfl
section
variable {q : Sp0} {t : Sto} {k : Nat} {l : List D} {d : D}
theorem box_stm (h : t[k]? = some (.lst l)) : box? (stm q t) (.ref (k + 2)) = some (k + 2, l) := by
  unfold box?
  dsimp only
  rw [stm_get, h]
theorem tyL_stm (h : t[k]? = some (.lst l)) : tyL (stm q t) (.ref (k + 2)) = true := by
  unfold tyL lst?
  dsimp only
  rw [stm_get, h]
  rfl
theorem items_stm (h : t[k]? = some (.lst l)) : items? (stm q t) (.ref (k + 2)) = some l := by
  unfold items?
  dsimp only
  rw [stm_get, h]
theorem lst_stm (h : t[k]? = some (.lst l)) : lst? (stm q t) (.ref (k + 2)) = some l := by
  unfold lst?
  dsimp only
  rw [stm_get, h]
theorem seqOf_stm (h : t[k]? = some (.lst l)) : seqOf (stm q t) (.ref (k + 2)) = some (l, fun s => s[k + 2]? = some (.lst l)) := by
  unfold seqOf
  dsimp only
  rw [stm_get, h]
theorem gLen_stm (h : t[k]? = some (.lst l)) : gLen (stm q t) [.ref (k + 2)] = some (.int l.length) := by
  unfold gLen
  dsimp only
  rw [items_stm h]
  rfl
theorem fIx_stm (h : t[k]? = some (.lst l)) {i : Int} : fIx (stm q t) (.ref (k + 2)) (.int i) = atI l i := by
  unfold fIx
  dsimp only
  rw [lst_stm h]
  rfl
theorem app_stm (h : t[k]? = some (.lst l)) (hl : l.length ≤ 1000000) : bAppend (stm q t) (.ref (k + 2)) [d] = some (.non, stm q (t.set k (.lst (l ++ [d])))) := by
  unfold bAppend
  dsimp only
  rw [box_stm h, Option.bind_some]
  dsimp only
  rw [if_pos (by omega), stm_upd]
theorem kd_stm (h : t[k]? = some (.lst l)) : kdD (stm q t) (.ref (k + 2)) = some (.t "list") := by
  unfold kdD
  dsimp only
  rw [stm_get, h]
theorem sub_stm {i : Nat} (h : t[k]? = some (.lst l)) (hi : i < l.length) : sub? (stm q t) (.ref (k + 2)) (i : Int) d = some (stm q (t.set k (.lst (l.set i d)))) := by
  unfold sub?
  rw [box_stm h, Option.bind_some]
  dsimp only
  unfold ixN
  rw [if_pos (by omega), if_pos (by omega)]
  simp only [Option.map_some, Int.toNat_natCast, stm_upd]
theorem last_get {x : Ob} : (t ++ [x])[t.length]? = some x := by simp
theorem last_set {x y : Ob} : (t ++ [x]).set t.length y = t ++ [y] := by simp
end
end
end MP

set_option Elab.async false
set_option linter.all false
set_option maxRecDepth 100000
set_option maxHeartbeats 4000000
/-! PD: one draw -/
namespace MP
open PySem L2
local macro_rules | `(tactic| walk_at "wp") => `(tactic| try simp only [↓wp_mSeq, ↓wp_mNext, ↓wp_mBrk, ↓wp_mCnt, ↓wp_mExpr, ↓wp_mRet, ↓wp_mRetN, ↓wp_mIf, ↓wp_mSet, ↓wp_mPar, ↓wp_mPar3, ↓wp_mAsg, ↓wp_mFor, ↓wp_mDPut, ↓wp_mFldSet, ↓wp_mVar, ↓wp_mC, ↓wp_mOp, ↓wp_mUn, ↓wp_mNil, ↓wp_mCons, ↓wp_mStar, ↓wp_mTup, ↓wp_mLst, ↓wp_mLstB, ↓wp_mIfE, ↓wp_mTst, ↓wp_mNot, ↓wp_mAnd, ↓wp_mOr, ↓wp_mAndV, ↓wp_mOrV, ↓wp_mNotV, ↓wp_mChain, ↓wp_mCall, ↓wp_mCallB, ↓wpO_pu, ↓wp_mBm, ↓wp_mBm0, ↓wp_moN, ↓wp_moS, ↓wp_mSl, ↓wp_mIsi, ↓wp_mTab, ↓wp_mTabIn, ↓wp_mTabNotIn, ↓wp_mDGet, ↓wp_mDGet2, ↓wp_mDNew, ↓wp_mSortSet, ↓wp_mSortSetB, ↓wp_mLenSet, ↓wp_mFrz, ↓wp_mFld, ↓wp_mMeth, ↓wp_mMake, ↓wp_mLenO, ↓wp_mEqO, ↓wp_mNeO, ↓wp_mLc, ↓wp_mLcB, ↓wp_miSeq, ↓wp_miRng, ↓wp_miZip, ↓wp_miEnum, ↓wp_gmName, ↓wp_gmNil, ↓wp_gmCons, ↓wp_gmTup, ↓wp_gmSub, ↓wp_mYes, ↓wpR_ok, wpO_some, wpB_true, wpB_false, wpB_not, wpI_true, asB_bl, asI_int, asT_tup, asS_str, two_two, three_three, isNon_non, cI_int, pad, wipeE, List.getElem?_cons_zero, List.getElem?_cons_succ, List.set_cons_zero, List.set_cons_succ, fAdd_int, fSub_int, fLt_int, fLe_int, fGt_int, fGe_int, fEq_int, fNe_int, fNeg_int, stm_ix0, stm_ix1, stm_ix2, stm_ix3, stm_set1, stm_set2, stm_set3, stm_ne, stm_tyL0, gInt_int, tyS_str, stm_len, stm_app])
theorem draw_end {q : Sp0} {t : Sto} {m : Int} (hq : q.Ok) (hb : q.b < 10000001) (hm : 0 < m) (hm2 : m < 1073741824) {x y : Option D} {b : Int} (e : q.b = b + 1) {N : Env → Sto → Prop} {B C : Env → Sto → Prop} {E : Xc → Env → Sto → Prop} :
    wpS (mSeq (mIf (mTst (mOp fGt (mOp fIx (mVar 0) (mC (.int 1))) (mC (.int 0)))) (mSeq (mSet 3 (mOp fMod (mCallB (pu gInt) (mCons (mOp fIx (mVar 0) (mC (.int 1))) (mNil))) (mVar 1)))
      (mSeq (mAsg (mOp fDiv (mOp fIx (mVar 0) (mC (.int 1))) (mVar 1)) (gmSub (mVar 0) (mC (.int 1))))
      (mRet (mVar 3)))) (mNext))
      (mSeq (mSet 2 (mOp fMod (mOp fPow (mOp fAdd (mOp fAdd (mOp fIx (mVar 0) (mC (.int 3))) (mOp fMul (mC (.int 104729)) (mOp fIx (mVar 0) (mC (.int 2))))) (mC (.int 17))) (mC (.int 5))) (mC (.int 2147483629))))
      (mRet (mOp fMod (mOp fMod (mOp fPow (mOp fAdd (mOp fAdd (mOp fMul (mVar 2) (mC (.int 48271))) (mOp fMul (mOp fMul (mC (.int 40503)) (mOp fIx (mVar 0) (mC (.int 2)))) (mOp fIx (mVar 0) (mC (.int 2))))) (mC (.int 13))) (mC (.int 3))) (mC (.int 1000000007))) (mVar 1)))) [some (.ref 1), some (.int m), x, y] (stm q t))
      N (fun d s' => ∃ (i : Nat) (q' : Sp0), d = .int i ∧ (i : Int) < m ∧ s' = stm q' t ∧ q'.Ok ∧ q'.b = b + 1) B C E := by
  have h0 := hq.a
  have h1 := hq.b
  have h2 := hq.c
  have h3 := hq.c2
  walk_at "wp"
  refine wpB_dec (fun ha => ?_) (fun ha => ?_)
  · walk_at "wp"
    rw [fMod_int hm]
    walk_at "wp"
    rw [fDiv_int hm hm2]
    walk_at "wp"
    have e1 := Int.emod_nonneg q.a (show m ≠ 0 by omega)
    refine ⟨(q.a % m).toNat, _, by rw [Int.toNat_of_nonneg e1], by rw [Int.toNat_of_nonneg e1]; exact Int.emod_lt_of_pos _ hm, rfl, ⟨Int.ediv_nonneg h0 (by omega), h1, h2, h3⟩, e⟩
  · walk_at "wp"
    rw [fMul_int (cMul_l (by decide) (by decide))]
    walk_at "wp"
    rw [fPow_int (by decide) (by decide) (by omega)]
    walk_at "wp"
    rw [fMod_int (by decide)]
    walk_at "wp"
    generalize hg : (q.c + 104729 * q.b + 17) ^ (5 : Int).toNat % 2147483629 = g
    have g0 : 0 ≤ g := by rw [← hg]; exact Int.emod_nonneg _ (by decide)
    have g1 : g < 2147483629 := by rw [← hg]; exact Int.emod_lt_of_pos _ (by decide)
    rw [fMul_int (cMul_r (by decide) (by decide))]
    walk_at "wp"
    rw [fMul_int (cMul_l (by decide) (by decide))]
    walk_at "wp"
    rw [fMul_int (cMul_r (by omega) (by omega))]
    walk_at "wp"
    have hbb : 40503 * q.b * q.b < 40503 * 10000001 * 10000001 + 1 := by
      have := Int.mul_le_mul (show 40503 * q.b ≤ 40503 * 10000001 by omega) (show q.b ≤ 10000001 by omega) h1 (by decide)
      omega
    have hb0 : 0 ≤ 40503 * q.b * q.b := Int.mul_nonneg (by omega) h1
    rw [fPow_int (by decide) (by decide) (by omega)]
    walk_at "wp"
    rw [fMod_int (by decide)]
    walk_at "wp"
    rw [fMod_int hm]
    walk_at "wp"
    have e1 := Int.emod_nonneg ((g * 48271 + 40503 * q.b * q.b + 13) ^ (3 : Int).toNat % 1000000007) (show m ≠ 0 by omega)
    exact ⟨_, q, by rw [Int.toNat_of_nonneg e1], by rw [Int.toNat_of_nonneg e1]; exact Int.emod_lt_of_pos _ hm, rfl, hq, e⟩
/-- a draw -/
theorem draw_spec {q : Sp0} {t : Sto} {m : Int} (hq : q.Ok) (hb : q.b < 10000000) (hm : 0 < m) (hm2 : m < 1073741824) :
    wpR (l_draw [.ref 1, .int m] (stm q t)) (fun d s' => ∃ (i : Nat) (q' : Sp0), d = .int i ∧ (i : Int) < m ∧ s' = stm q' t ∧ q'.Ok ∧ q'.b = q.b + 1) (fun _ _ => False) := by
  have h0 := hq.a
  have h1 := hq.b
  have h2 := hq.c
  have h3 := hq.c2
  unfold l_draw
  refine wp_fn (by simp) ?_
  rw [wp_mSeq, wp_mAsg]
  simp only [↓wp_mOp, ↓wp_mVar, ↓wp_mC, List.getElem?_cons_zero, wpO_some, stm_ix2, fAdd_int, ↓wp_gmSub, asI_int, stm_set2, pad]
  rw [wp_mSeq, wp_mIf]
  simp only [↓wp_mAnd, ↓wp_mTst, ↓wp_mOp, ↓wp_mVar, ↓wp_mC, List.getElem?_cons_zero, wpO_some, stm_ix1, fEq_int, asB_bl]
  refine wpB_dec (fun ha => ?_) (fun ha => ?_)
  · simp only [↓wp_mOp, ↓wp_mTst, ↓wp_mVar, ↓wp_mC, ↓wp_mLst, ↓wp_mNil, List.getElem?_cons_zero, wpO_some, stm_ix0, stm_ne, asB_bl, List.length_nil, Nat.zero_le, wpI_true]
    cases hl : q.l with
    | nil =>
      simp only [List.isEmpty_nil, Bool.not_true, wpB_false, ↓wp_mNext]
      exact draw_end (q := ⟨[], q.a, q.b + 1, q.c⟩) (b := q.b) ⟨h0, by show 0 ≤ q.b + 1; omega, h2, h3⟩ (by show q.b + 1 < _; omega) hm hm2 rfl
    | cons v l =>
      simp only [List.isEmpty_cons, Bool.not_false, wpB_true]
      rw [wp_mSeq, wp_mAsg]
      simp only [↓wp_mBm, ↓wp_mOp, ↓wp_mVar, ↓wp_mC, ↓wp_mCons, ↓wp_mNil, List.getElem?_cons_zero, wpO_some, stm_ix0, stm_tyL0, wpI_true, stm_pop (q := ⟨v :: l, q.a, q.b + 1, q.c⟩) rfl, ↓wp_gmSub, asI_int, stm_set1]
      rw [wp_mIf]
      simp only [↓wp_mTst, ↓wp_mOp, ↓wp_mVar, ↓wp_mC, List.getElem?_cons_zero, wpO_some, stm_ix1]
      rw [fPow_int (by decide) (by decide) (by decide)]
      simp only [wpO_some, fLt_int, asB_bl]
      refine wpB_dec (fun hv => ?_) (fun hv => ?_)
      · rw [wp_mSeq, wp_mAsg]
        simp only [↓wp_mOp, ↓wp_mVar, ↓wp_mC, ↓wp_mCallB, ↓wpO_pu, ↓wp_mCons, ↓wp_mNil, List.getElem?_cons_zero, wpO_some, stm_ix3]
        rw [fMul_int (cMul_r (by decide) (by decide))]
        simp only [↓wp_mOp, ↓wp_mVar, ↓wp_mC, ↓wp_mCallB, ↓wpO_pu, ↓wp_mCons, ↓wp_mNil, List.getElem?_cons_zero, wpO_some, stm_ix1, fAdd_int, gInt_int]
        rw [fMod_int (by decide)]
        simp only [wpO_some, ↓wp_gmSub, ↓wp_mVar, ↓wp_mC, List.getElem?_cons_zero, asI_int, stm_set3, ↓wp_mAsg, stm_set1]
        exact draw_end (b := q.b) ⟨Int.le_refl 0, by show 0 ≤ q.b + 1; omega, Int.emod_nonneg _ (by decide), Int.emod_lt_of_pos _ (by decide)⟩ (by show q.b + 1 < _; omega) hm hm2 rfl
      · simp only [↓wp_mNext]
        have e18 : (10 : Int) ^ (18 : Int).toNat = 1000000000000000000 := by decide
        rw [e18] at hv
        exact draw_end (q := ⟨l, v, q.b + 1, q.c⟩) (b := q.b) ⟨by show 0 ≤ v; omega, by show 0 ≤ q.b + 1; omega, h2, h3⟩ (by show q.b + 1 < _; omega) hm hm2 rfl
  · rw [wpB_false]
    simp only [↓wp_mNext]
    exact draw_end (q := ⟨q.l, q.a, q.b + 1, q.c⟩) (b := q.b) ⟨h0, by show 0 ≤ q.b + 1; omega, h2, h3⟩ (by show q.b + 1 < _; omega) hm hm2 rfl
end MP

set_option Elab.async false
set_option linter.all false
set_option maxRecDepth 100000
set_option maxHeartbeats 4000000
/-! PG1: picks, names, numbers -/
namespace MP
open PySem L2
local macro_rules | `(tactic| walk_at "wp") => `(tactic| try simp only [↓wp_mSeq, ↓wp_mNext, ↓wp_mBrk, ↓wp_mCnt, ↓wp_mExpr, ↓wp_mRet, ↓wp_mRetN, ↓wp_mIf, ↓wp_mSet, ↓wp_mPar, ↓wp_mPar3, ↓wp_mAsg, ↓wp_mFor, ↓wp_mDPut, ↓wp_mFldSet, ↓wp_mVar, ↓wp_mC, ↓wp_mOp, ↓wp_mUn, ↓wp_mNil, ↓wp_mCons, ↓wp_mStar, ↓wp_mTup, ↓wp_mLst, ↓wp_mLstB, ↓wp_mIfE, ↓wp_mTst, ↓wp_mNot, ↓wp_mAnd, ↓wp_mOr, ↓wp_mAndV, ↓wp_mOrV, ↓wp_mNotV, ↓wp_mChain, ↓wp_mCall, ↓wp_mCallB, ↓wpO_pu, ↓wp_mBm, ↓wp_mBm0, ↓wp_moN, ↓wp_moS, ↓wp_mSl, ↓wp_mIsi, ↓wp_mTab, ↓wp_mTabIn, ↓wp_mTabNotIn, ↓wp_mDGet, ↓wp_mDGet2, ↓wp_mDNew, ↓wp_mSortSet, ↓wp_mSortSetB, ↓wp_mLenSet, ↓wp_mFrz, ↓wp_mFld, ↓wp_mMeth, ↓wp_mMake, ↓wp_mLenO, ↓wp_mEqO, ↓wp_mNeO, ↓wp_mLc, ↓wp_mLcB, ↓wp_miSeq, ↓wp_miRng, ↓wp_miZip, ↓wp_miEnum, ↓wp_gmName, ↓wp_gmNil, ↓wp_gmCons, ↓wp_gmTup, ↓wp_gmSub, ↓wp_mYes, ↓wpR_ok, wpO_some, wpB_true, wpB_false, wpB_not, wpI_true, asB_bl, asI_int, asT_tup, asS_str, two_two, three_three, isNon_non, cI_int, pad, wipeE, List.getElem?_cons_zero, List.getElem?_cons_succ, List.set_cons_zero, List.set_cons_succ, fAdd_int, fSub_int, fLt_int, fLe_int, fGt_int, fGe_int, fEq_int, fNe_int, fNeg_int, stm_ix0, stm_ix1, stm_ix2, stm_ix3, stm_set1, stm_set2, stm_set3, stm_ne, stm_tyL0, gInt_int, tyS_str, stm_len, stm_app])
/-- the spring went on by at most k draws -/
structure Adv (q q' : Sp0) (k : Int) : Prop where
  ok : q'.Ok
  lo : q.b ≤ q'.b
  hi : q'.b ≤ q.b + k
theorem Adv.refl {q : Sp0} (h : q.Ok) : Adv q q 0 := ⟨h, Int.le_refl _, by omega⟩
theorem Adv.trans {q q1 q2 : Sp0} {k l m : Int} (a : Adv q q1 k) (b : Adv q1 q2 l) (h : k + l ≤ m) : Adv q q2 m := ⟨b.ok, by have := a.lo; have := b.lo; omega, by have := a.hi; have := b.hi; omega⟩
theorem Adv.mono {q q1 : Sp0} {k m : Int} (a : Adv q q1 k) (h : k ≤ m) : Adv q q1 m := ⟨a.ok, a.lo, by have := a.hi; omega⟩
theorem le_line {n : Nat} (h : n ≤ 1000) : n ≤ 16777216 := by omega
/-- a draw, as a rule -/
theorem wp_draw {q : Sp0} {t : Sto} {m : Int} {Q : D → Sto → Prop} {E : XP} (hq : q.Ok) (hb : q.b < 10000000) (hm : 0 < m) (hm2 : m < 1073741824)
    (h : ∀ (i : Nat) (q' : Sp0), (i : Int) < m → Adv q q' 1 → Q (.int i) (stm q' t)) : wpR (l_draw [.ref 1, .int m] (stm q t)) Q E := by
  refine wpR_imp (draw_spec hq hb hm hm2) ?_
  rintro _ _ ⟨i, q', rfl, h1, rfl, h2, h3⟩
  exact h i q' h1 ⟨h2, by omega, by omega⟩
theorem wp_pick {q : Sp0} {t : Sto} {x : D} {n : Nat} {Q : D → Sto → Prop} {E : XP} (hq : q.Ok) (hb : q.b < 10000000) (hn : 0 < n) (hn2 : n < 1000000) (hl : ∀ q, gLen (stm q t) [x] = some (.int n))
    (h : ∀ (i : Nat) (q' : Sp0), i < n → Adv q q' 1 → wpO (fIx (stm q' t) x (.int i)) fun d => Q d (stm q' t)) : wpR (l_pick [.ref 1, x] (stm q t)) Q E := by
  unfold l_pick
  refine wp_fn (by simp) ?_
  walk_at "wp"
  simp only [hl, wpO_some]
  walk_at "wp"
  refine wp_draw hq hb (by omega) (by omega) fun i q' h1 h2 => ?_
  exact h i q' (by omega) h2
/-! ### names -/
structure NameOk (z : Str) : Prop where
  lo : 1 ≤ z.cps.size
  hi : z.cps.size ≤ 8
  all : ∀ c ∈ z.cps.toList, 97 ≤ c ∧ c ≤ 122
theorem NameOk.str {z : Str} (h : NameOk z) : PyData.strOk z = true := by
  unfold PyData.strOk
  rw [Array.all_eq_true']
  intro c hc
  have := h.all c (Array.mem_toList_iff.mpr hc)
  simp
  omega
abbrev letters : Str := "abcdefghijklmnopqrstuvwxyz"
theorem letters_list : letters.cps.toList = [97, 98, 99, 100, 101, 102, 103, 104, 105, 106, 107, 108, 109, 110, 111, 112, 113, 114, 115, 116, 117, 118, 119, 120, 121, 122] := by decide
theorem letters_len : letters.length = 26 := by decide
theorem gLen_letters {s : Sto} : gLen s [.str letters] = some (.int (26 : Nat)) := by
  unfold gLen
  dsimp only
  rw [letters_len, if_pos (by decide)]
theorem letters_at {i : Nat} (h : i < 26) : letters.cps.toList[i]? = some (97 + i) := by
  rw [letters_list]
  rcases i with _|_|_|_|_|_|_|_|_|_|_|_|_|_|_|_|_|_|_|_|_|_|_|_|_|_|i <;> first | rfl | omega
theorem fIx_letter {s : Sto} {i : Nat} (h : i < 26) : fIx s (.str letters) (.int i) = some (.str ⟨#[97 + i]⟩) := by
  unfold fIx
  dsimp only
  rw [if_pos (by rw [letters_len]; decide), atI_nat (letters_at h)]
  rfl
theorem join_one : ∀ l : List Nat, (Str.join Str.empty (l.map fun c => (⟨#[c]⟩ : Str))).cps.toList = l
  | [] => rfl
  | [c] => rfl
  | c :: d :: l => by
    have ih := join_one (d :: l)
    show ((⟨#[c]⟩ : Str) ++ Str.empty ++ Str.join Str.empty ((d :: l).map fun c => (⟨#[c]⟩ : Str))).cps.toList = _
    have e : ∀ x y : Str, (x ++ y).cps.toList = x.cps.toList ++ y.cps.toList := fun x y => Array.toList_append
    rw [e, e, ih]
    rfl
theorem join_sum : ∀ l : List Nat, ((l.map fun c => (⟨#[c]⟩ : Str)).map (·.length)).sum = l.length
  | [] => rfl
  | c :: l => by simp only [List.map_cons, List.sum_cons, List.length_cons, join_sum l]; show 1 + l.length = _; omega
theorem join_letters {s : Sto} {l : List Nat} (h : l.length ≤ 8) : bJoin s (.str "") [.lst (l.map (fun c => D.str ⟨#[c]⟩))] = some (.str (Str.join Str.empty (l.map fun c => (⟨#[c]⟩ : Str))), s) := by
  have e1 : (items? s (.lst (l.map (fun c => D.str ⟨#[c]⟩)))).bind txts? = some (l.map fun c => (⟨#[c]⟩ : Str)) := by
    show txts? (l.map (fun c => D.str ⟨#[c]⟩)) = _
    have := txts_map (l.map fun c => (⟨#[c]⟩ : Str))
    rw [List.map_map] at this
    exact this
  have e0 : (Str.ofString "") = Str.empty := by decide
  have e0' : Str.empty.length = 0 := by decide
  unfold bJoin
  dsimp only
  rw [e1, e0]
  dsimp only
  rw [if_pos (by rw [join_sum, e0', List.length_map]; omega), beq_iff_eq.mp (PyProof.Rows.join_plain_closes Str.empty _)]
theorem sizes_at {i : Nat} (h : i < 6) : ∃ n : Nat, atI [D.int 1, .int 1, .int 2, .int 3, .int 5, .int 8] (i : Int) = some (.int n) ∧ 1 ≤ n ∧ n ≤ 8 ∧ n ≠ 4 := by
  rcases i with _|_|_|_|_|_|i
  · exact ⟨1, rfl, by decide, by decide, by decide⟩
  · exact ⟨1, rfl, by decide, by decide, by decide⟩
  · exact ⟨2, rfl, by decide, by decide, by decide⟩
  · exact ⟨3, rfl, by decide, by decide, by decide⟩
  · exact ⟨5, rfl, by decide, by decide, by decide⟩
  · exact ⟨8, rfl, by decide, by decide, by decide⟩
  · omega
theorem rng_nat {n : Nat} (h : n < 1000000) : rng? [.int n] = some (upto n, any_) := by
  unfold rng?
  dsimp only
  rw [if_pos (by omega), Int.toNat_natCast]
theorem fIx_lst {s : Sto} {l : List D} {i : Int} : fIx s (.lst l) (.int i) = atI l i := id rfl
theorem fIx_tup {s : Sto} {l : List D} {i : Int} : fIx s (.tup l) (.int i) = atI l i := id rfl
theorem wp_sizes {s : Sto} {i : Nat} {Q : D → Prop} (h : i < 6) (k : ∀ n : Nat, 1 ≤ n → n ≤ 8 → n ≠ 4 → Q (.int n)) : wpO (fIx s (.lst [.int 1, .int 1, .int 2, .int 3, .int 5, .int 8]) (.int i)) Q := by
  obtain ⟨n, e, n1, n2, n3⟩ := sizes_at h
  exact wpO_get (fIx_lst.trans e) (k n n1 n2 n3)
theorem wp_name {q : Sp0} {t : Sto} {Q : D → Sto → Prop} {E : XP} (hq : q.Ok) (hb : q.b < 9000000)
    (h : ∀ (z : Str) (q' : Sp0), NameOk z → z.cps.size ≠ 4 → Adv q q' 9 → Q (.str z) (stm q' t)) : wpR (l_name [.ref 1] (stm q t)) Q E := by
  unfold l_name
  refine wp_fn (by simp) ?_
  walk_at "wp"
  refine wpI_intro (le_line (by decide)) ?_
  walk_at "wp"
  refine wp_draw hq (by omega) (by decide) (by decide) fun i q1 h1 a1 => ?_
  refine wp_sizes (by omega) fun n n1 n2 n3 => ?_
  walk_at "wp"
  rw [rng_nat (by omega)]
  walk_at "wp"
  refine wpI_intro (le_line (by simp [upto_len]; omega)) ?_
  have e0 := a1.hi
  refine wp_lcB (fun rest acc s => ∃ (q2 : Sp0) (l : List Nat), s = stm q2 t ∧ Adv q1 q2 l.length ∧ acc = l.map (fun c => D.str ⟨#[c]⟩) ∧ (∀ c ∈ l, 97 ≤ c ∧ c ≤ 122) ∧ l.length + rest.length = n) ?_ ?_ ⟨q1, [], rfl, Adv.refl a1.ok, rfl, by simp, by simp [upto_len]⟩
  · rintro d ds acc s ⟨q2, l, rfl, a2, rfl, hl, hn⟩
    refine ⟨trivial, ?_⟩
    have e2 := a2.hi
    simp at hn
    walk_at "wp"
    refine wp_pick (n := 26) a2.ok (by omega) (by decide) (by decide) (fun q => gLen_letters) fun i q3 h3 a3 => ?_
    refine wpO_get (fIx_letter h3) ?_
    exact ⟨q3, l ++ [97 + i], rfl, a2.trans a3 (by simp), by simp, fun c hc => by
      rcases List.mem_append.mp hc with h | h
      · exact hl c h
      · have e : c = 97 + i := by simpa using h
        omega, by simp; omega⟩
  · rintro acc s ⟨q2, l, rfl, a2, rfl, hl, hn⟩
    refine ⟨trivial, ?_⟩
    have hn' : l.length = n := by simpa using hn
    walk_at "wp"
    refine wpO_get (join_letters (by omega)) ?_
    refine h _ q2 ⟨?_, ?_, ?_⟩ ?_ (a1.trans a2 (by omega))
    · rw [← Array.length_toList, join_one]; omega
    · rw [← Array.length_toList, join_one]; omega
    · rw [join_one]; exact hl
    · rw [← Array.length_toList, join_one]; omega
theorem wp_number {q : Sp0} {t : Sto} {Q : D → Sto → Prop} {E : XP} (hq : q.Ok) (hb : q.b < 9000000)
    (h : ∀ (i : Int) (q' : Sp0), i.natAbs < 10 ^ 30 → Adv q q' 3 → Q (.int i) (stm q' t)) : wpR (l_number [.ref 1] (stm q t)) Q E := by
  unfold l_number
  refine wp_fn (by simp) ?_
  walk_at "wp"
  refine wp_draw hq (by omega) (by decide) (by decide) fun i q1 h1 a1 => ?_
  walk_at "wp"
  have e1 := a1.hi
  refine wpB_dec (fun hi => ?_) (fun hi => ?_)
  · walk_at "wp"
    refine wpI_intro (le_line (by decide)) ?_
    walk_at "wp"
    refine wp_draw a1.ok (by omega) (by decide) (by decide) fun j q2 h2 a2 => ?_
    have e2 := a2.hi
    have ej : ∃ v : Int, atI [D.int 1, .int (-1)] (j : Int) = some (.int v) ∧ (v = 1 ∨ v = -1) := by
      rcases j with _|_|j
      · exact ⟨1, rfl, .inl rfl⟩
      · exact ⟨-1, rfl, .inr rfl⟩
      · omega
    obtain ⟨v, ev, hv⟩ := ej
    refine wpO_get (fIx_lst.trans ev) ?_
    walk_at "wp"
    rw [fPow_int (by decide) (by decide) (by decide)]
    walk_at "wp"
    refine wp_draw a2.ok (by omega) (by decide) (by decide) fun k q3 h3 a3 => ?_
    walk_at "wp"
    have e30 : (10 : Int) ^ (30 : Int).toNat = 1000000000000000000000000000000 := by decide
    rw [e30, fMul_int (cMul_l (by omega) (by omega))]
    walk_at "wp"
    refine h _ q3 ?_ ((a1.trans a2 (Int.le_refl _)).trans a3 (by decide))
    have n30 : (10 : Nat) ^ 30 = 1000000000000000000000000000000 := by decide
    rw [n30]
    rcases hv with rfl | rfl
    · omega
    · omega
  · walk_at "wp"
    have n30 : (10 : Nat) ^ 30 = 1000000000000000000000000000000 := by decide
    refine wpB_dec (fun hi => ?_) (fun hi => ?_)
    · walk_at "wp"
      exact h _ q1 (by rw [n30]; omega) (a1.mono (by decide))
    · walk_at "wp"
      exact h _ q1 (by rw [n30]; omega) (a1.mono (by decide))
end MP

set_option Elab.async false
set_option linter.all false
set_option maxRecDepth 100000
set_option maxHeartbeats 4000000
/-! PG2: many names -/
namespace MP
open PySem L2
local macro_rules | `(tactic| walk_at "wp") => `(tactic| try simp only [↓wp_mSeq, ↓wp_mNext, ↓wp_mBrk, ↓wp_mCnt, ↓wp_mExpr, ↓wp_mRet, ↓wp_mRetN, ↓wp_mIf, ↓wp_mSet, ↓wp_mPar, ↓wp_mPar3, ↓wp_mAsg, ↓wp_mFor, ↓wp_mDPut, ↓wp_mFldSet, ↓wp_mVar, ↓wp_mC, ↓wp_mOp, ↓wp_mUn, ↓wp_mNil, ↓wp_mCons, ↓wp_mStar, ↓wp_mTup, ↓wp_mLst, ↓wp_mLstB, ↓wp_mIfE, ↓wp_mTst, ↓wp_mNot, ↓wp_mAnd, ↓wp_mOr, ↓wp_mAndV, ↓wp_mOrV, ↓wp_mNotV, ↓wp_mChain, ↓wp_mCall, ↓wp_mCallB, ↓wpO_pu, ↓wp_mBm, ↓wp_mBm0, ↓wp_moN, ↓wp_moS, ↓wp_mSl, ↓wp_mIsi, ↓wp_mTab, ↓wp_mTabIn, ↓wp_mTabNotIn, ↓wp_mDGet, ↓wp_mDGet2, ↓wp_mDNew, ↓wp_mSortSet, ↓wp_mSortSetB, ↓wp_mLenSet, ↓wp_mFrz, ↓wp_mFld, ↓wp_mMeth, ↓wp_mMake, ↓wp_mLenO, ↓wp_mEqO, ↓wp_mNeO, ↓wp_mLc, ↓wp_mLcB, ↓wp_miSeq, ↓wp_miRng, ↓wp_miZip, ↓wp_miEnum, ↓wp_gmName, ↓wp_gmNil, ↓wp_gmCons, ↓wp_gmTup, ↓wp_gmSub, ↓wp_mYes, ↓wpR_ok, wpO_some, wpB_true, wpB_false, wpB_not, wpI_true, asB_bl, asI_int, asT_tup, asS_str, two_two, three_three, isNon_non, cI_int, pad, wipeE, List.getElem?_cons_zero, List.getElem?_cons_succ, List.set_cons_zero, List.set_cons_succ, fAdd_int, fSub_int, fLt_int, fLe_int, fGt_int, fGe_int, fEq_int, fNe_int, fNeg_int, stm_ix0, stm_ix1, stm_ix2, stm_ix3, stm_set1, stm_set2, stm_set3, stm_ne, stm_tyL0, gInt_int, tyS_str, stm_len, stm_app])
def spares : List Str := [⟨#[97, 122, 97]⟩, ⟨#[98, 122, 98]⟩, ⟨#[99, 122, 99]⟩, ⟨#[100, 122, 100]⟩, ⟨#[101, 122, 101]⟩, ⟨#[102, 122, 102]⟩, ⟨#[103, 122, 103]⟩, ⟨#[104, 122, 104]⟩]
theorem spares_ok : ∀ z ∈ spares, z.cps.size = 3 ∧ ∀ c ∈ z.cps.toList, 97 ≤ c ∧ c ≤ 122 := by decide
theorem signs_ah : signs "abcdefgh" = [.str ⟨#[97]⟩, .str ⟨#[98]⟩, .str ⟨#[99]⟩, .str ⟨#[100]⟩, .str ⟨#[101]⟩, .str ⟨#[102]⟩, .str ⟨#[103]⟩, .str ⟨#[104]⟩] := by
  have e : (Str.ofString "abcdefgh").cps.toList = [97, 98, 99, 100, 101, 102, 103, 104] := by decide
  unfold signs
  rw [e]
  rfl
def zed (d : D) : Option D := match d with
  | .str a => some (.str (a ++ (Str.ofString "z") ++ a))
  | _ => none
theorem zed_all : (signs "abcdefgh").filterMap zed = spares.map D.str := by
  rw [signs_ah]
  have e : (Str.ofString "z") = ⟨#[122]⟩ := by decide
  simp only [List.filterMap_cons, zed, e, List.filterMap_nil, spares, List.map_cons, List.map_nil]
  rfl
theorem fAdd_str {s : Sto} {a b : Str} (h : a.length + b.length ≤ 1000) : fAdd s (.str a) (.str b) = some (.str (a ++ b)) := by
  unfold fAdd
  dsimp only
  rw [if_pos (by omega)]
theorem str_len_app (a b : Str) : (a ++ b).length = a.length + b.length := by
  show (a.cps ++ b.cps).size = _
  rw [Array.size_append]
  rfl
theorem eqF_str {a b : Str} : eqF (.str a) (.str b) = decide (a = b) := by rw [← beq_dec]; rfl
theorem inF_str {z : Str} : ∀ zs : List Str, inF (.str z) (zs.map D.str) = decide (z ∈ zs)
  | [] => by simp [inF]
  | y :: zs => by
    have ih := inF_str (z := z) zs
    unfold inF at ih ⊢
    rw [List.map_cons, List.any_cons, ih, eqF_str]
    by_cases h : y = z
    · subst h; simp
    · simp [h, Ne.symm h]
theorem flat_strs : ∀ zs : List Str, (zs.map D.str).all flatD = true
  | [] => rfl
  | z :: zs => by rw [List.map_cons, List.all_cons, flat_strs zs]; rfl
theorem fNotIn_strs {s : Sto} {x : D} {z : Str} {zs : List Str} (h : items? s x = some (zs.map .str)) (hx : ∀ w, x ≠ .str w) : fNotIn s (.str z) x = some (.bl !decide (z ∈ zs)) := by
  unfold fNotIn in?
  cases x with
  | str w => exact absurd rfl (hx w)
  | _ =>
    first
    | (dsimp only; rw [h]; dsimp only; rw [if_pos (by rw [flat_strs]; rfl), inF_str]; rfl)
    | cases h
theorem fIn_strs {s : Sto} {x : D} {z : Str} {zs : List Str} (h : items? s x = some (zs.map .str)) (hx : ∀ w, x ≠ .str w) : fIn s (.str z) x = some (.bl (decide (z ∈ zs))) := by
  unfold fIn in?
  cases x with
  | str w => exact absurd rfl (hx w)
  | _ =>
    first
    | (dsimp only; rw [h]; dsimp only; rw [if_pos (by rw [flat_strs]; rfl), inF_str]; rfl)
    | cases h
def notIn (zs : List Str) (d : D) : Option D := match d with
  | .str z => if z ∈ zs then none else some (.str z)
  | _ => none
theorem notIn_all (zs : List Str) : ∀ ys : List Str, (ys.map D.str).filterMap (notIn zs) = (ys.filter fun z => !decide (z ∈ zs)).map D.str
  | [] => rfl
  | y :: ys => by
    rw [List.map_cons, List.filterMap_cons, notIn_all zs ys, List.filter_cons]
    by_cases h : y ∈ zs
    · simp [notIn, h]
    · simp [notIn, h]
/-- one of nine is new -/
theorem spare_new {zs : List Str} {z : Str} (h : zs.length < 8) : ∃ w r, ((z :: spares).filter fun z => !decide (z ∈ zs)) = w :: r ∧ w ∉ zs ∧ (w = z ∨ w ∈ spares) := by
  cases e : (z :: spares).filter fun z => !decide (z ∈ zs) with
  | nil =>
    have hs : ∀ a ∈ spares, a ∈ zs := fun a ha => by
      have := List.filter_eq_nil_iff.mp e a (List.mem_cons_of_mem _ ha)
      simpa using this
    have := PySem.length_le_of_nodup_of_subset spares zs (by decide) hs
    have e8 : spares.length = 8 := rfl
    omega
  | cons w r =>
    have hm : w ∈ (z :: spares).filter fun z => !decide (z ∈ zs) := by rw [e]; exact List.mem_cons_self
    obtain ⟨h1, h2⟩ := List.mem_filter.mp hm
    exact ⟨w, r, rfl, by simpa using h2, by simpa using h1⟩
theorem wp_names {q : Sp0} {t : Sto} {m : Nat} {Q : D → Sto → Prop} {E : XP} (hq : q.Ok) (hb : q.b < 8000000) (hm : m ≤ 7)
    (h : ∀ (zs : List Str) (q' : Sp0), zs.Nodup → zs.length = m → (∀ z ∈ zs, NameOk z ∧ z.cps.size ≠ 4) → Adv q q' 63 → Q (.ref (t.length + 2)) (stm q' (t ++ [.lst (zs.map .str)]))) : wpR (l_names [.ref 1, .int m] (stm q t)) Q E := by
  unfold l_names
  refine wp_fn (by simp) ?_
  walk_at "wp"
  refine wpI_intro (le_line (by decide)) ?_
  walk_at "wp"
  rw [rng_nat (by omega)]
  walk_at "wp"
  refine wp_for (fun rest ρ s => ∃ (q' : Sp0) (zs : List Str) (o3 o4 o5 : Option D), ρ = [some (.ref 1), some (.int m), some (.ref (t.length + 2)), o3, o4, o5, none, none] ∧ s = stm q' (t ++ [.lst (zs.map .str)]) ∧ Adv q q' (9 * zs.length) ∧ zs.Nodup ∧ (∀ z ∈ zs, NameOk z ∧ z.cps.size ≠ 4) ∧ zs.length + rest.length = m) ?_ ?_ ⟨q, [], none, none, none, rfl, rfl, (Adv.refl hq).mono (by simp), by simp, by simp, by simp [upto_len]⟩
  · rintro d ds ρ s ⟨q1, zs, o3, o4, o5, rfl, rfl, a1, hnd, hz, hn⟩
    refine ⟨trivial, ?_⟩
    have e1 := a1.hi
    simp at hn
    walk_at "wp"
    refine wp_name a1.ok (by omega) fun z q2 hz1 hz2 a2 => ?_
    walk_at "wp"
    refine wpI_intro (le_line (by simp)) ?_
    walk_at "wp"
    have e0 : seqOf (stm q2 (t ++ [.lst (zs.map .str)])) (.str "abcdefgh") = some (signs "abcdefgh", any_) := rfl
    rw [e0]
    walk_at "wp"
    refine wpI_intro (le_line (by rw [signs_ah]; decide)) ?_
    rw [lcL_pure zed (fun d hd => ?_), zed_all]
    rotate_left
    · rw [signs_ah] at hd
      have : ∃ c : Nat, d = .str ⟨#[c]⟩ := by
        simp only [List.mem_cons, List.mem_nil_iff, or_false] at hd
        rcases hd with rfl | rfl | rfl | rfl | rfl | rfl | rfl | rfl <;> exact ⟨_, rfl⟩
      obtain ⟨c, rfl⟩ := this
      refine ⟨_, rfl, ?_⟩
      have ez : (Str.ofString "z").length = 1 := by decide
      have l1 : (⟨#[c]⟩ : Str).length = 1 := rfl
      refine ⟨rfl, ?_⟩
      have g : ∀ s, fAdd s (.str ⟨#[c]⟩) (.str "z") = some (.str (⟨#[c]⟩ ++ (Str.ofString "z"))) := fun s => fAdd_str (by rw [ez, l1]; decide)
      have g2 : ∀ s, fAdd s (.str (⟨#[c]⟩ ++ (Str.ofString "z"))) (.str ⟨#[c]⟩) = some (.str (⟨#[c]⟩ ++ (Str.ofString "z") ++ ⟨#[c]⟩)) := fun s => fAdd_str (by rw [str_len_app, ez, l1]; decide)
      simp only [mOp, mVar, mC, wipeE, List.set_cons_zero, List.set_cons_succ, List.getElem?_cons_zero, List.getElem?_cons_succ, bnd_ok, g, g2, ofO_some]
    walk_at "wp"
    have g3 : ∀ s, fAdd s (.lst [.str z]) (.lst (spares.map D.str)) = some (.lst ((z :: spares).map D.str)) := fun s => by
      unfold fAdd
      dsimp only [lst?]
      rw [if_pos (le_line (by simp [spares]))]
      rfl
    rw [g3]
    walk_at "wp"
    rw [tyL_stm last_get]
    walk_at "wp"
    have e5 : ∀ s, seqOf s (.lst ((z :: spares).map D.str)) = some ((z :: spares).map D.str, any_) := fun s => rfl
    rw [e5]
    walk_at "wp"
    refine wpI_intro (le_line (by simp [spares])) ?_
    rw [lcL_pure (notIn zs) (fun d hd => ?_), notIn_all]
    rotate_left
    · obtain ⟨y, _, rfl⟩ := List.mem_map.mp hd
      refine ⟨_, rfl, ?_⟩
      have g6 := fNotIn_strs (z := y) (items_stm (q := q2) (t := t ++ [.lst (zs.map .str)]) (k := t.length) last_get) (fun w => by intro h; cases h)
      by_cases hy : y ∈ zs
      · simp only [notIn, hy, if_true, mTst, mOp, mVar, mC, wipeE, List.set_cons_zero, List.set_cons_succ, List.getElem?_cons_zero, List.getElem?_cons_succ, bnd_ok, g6, ofO_some, decide_true, Bool.not_true]
      · simp only [notIn, hy, if_false, mTst, mOp, mVar, mC, wipeE, List.set_cons_zero, List.set_cons_succ, List.getElem?_cons_zero, List.getElem?_cons_succ, bnd_ok, g6, ofO_some, decide_false, Bool.not_false, and_self]
    obtain ⟨w, r, er, hw, hws⟩ := spare_new (z := z) (zs := zs) (by omega)
    rw [er]
    walk_at "wp"
    have g7 : ∀ s, fIx s (.lst ((w :: r).map D.str)) (.int 0) = some (.str w) := fun s => by
      rw [fIx_lst]
      exact atI_nat (n := 0) rfl
    rw [g7]
    walk_at "wp"
    rw [app_stm last_get (by simp; omega)]
    walk_at "wp"
    rw [last_set]
    have hwok : NameOk w ∧ w.cps.size ≠ 4 := by
      rcases hws with rfl | hws
      · exact ⟨hz1, hz2⟩
      · obtain ⟨h1, h2⟩ := spares_ok w hws
        exact ⟨⟨by omega, by omega, h2⟩, by omega⟩
    refine ⟨q2, zs ++ [w], _, _, _, rfl, by rw [List.map_append]; rfl, a1.trans a2 (by simp; omega), ?_, ?_, by simp; omega⟩
    · rw [List.nodup_append]
      exact ⟨hnd, by simp, fun a ha b hb => by
        have : b = w := by simpa using hb
        subst this
        exact fun e => hw (e ▸ ha)⟩
    · intro y hy
      rcases List.mem_append.mp hy with h | h
      · exact hz y h
      · have : y = w := by simpa using h
        subst this
        exact hwok
  · rintro ρ s ⟨q1, zs, o3, o4, o5, rfl, rfl, a1, hnd, hz, hn⟩
    refine ⟨trivial, ?_⟩
    walk_at "wp"
    have hn' : zs.length = m := by simpa using hn
    exact h zs q1 hnd hn' hz (a1.mono (by omega))
end MP

set_option Elab.async false
set_option linter.all false
set_option maxRecDepth 100000
set_option maxHeartbeats 4000000
/-! PG3: steps as data; pools; mixed, held -/
namespace MP
open PySem L2
local macro_rules | `(tactic| walk_at "wp") => `(tactic| try simp only [↓wp_mSeq, ↓wp_mNext, ↓wp_mBrk, ↓wp_mCnt, ↓wp_mExpr, ↓wp_mRet, ↓wp_mRetN, ↓wp_mIf, ↓wp_mSet, ↓wp_mPar, ↓wp_mPar3, ↓wp_mAsg, ↓wp_mFor, ↓wp_mDPut, ↓wp_mFldSet, ↓wp_mVar, ↓wp_mC, ↓wp_mOp, ↓wp_mUn, ↓wp_mNil, ↓wp_mCons, ↓wp_mStar, ↓wp_mTup, ↓wp_mLst, ↓wp_mLstB, ↓wp_mIfE, ↓wp_mTst, ↓wp_mNot, ↓wp_mAnd, ↓wp_mOr, ↓wp_mAndV, ↓wp_mOrV, ↓wp_mNotV, ↓wp_mChain, ↓wp_mCall, ↓wp_mCallB, ↓wpO_pu, ↓wp_mBm, ↓wp_mBm0, ↓wp_moN, ↓wp_moS, ↓wp_mSl, ↓wp_mIsi, ↓wp_mTab, ↓wp_mTabIn, ↓wp_mTabNotIn, ↓wp_mDGet, ↓wp_mDGet2, ↓wp_mDNew, ↓wp_mSortSet, ↓wp_mSortSetB, ↓wp_mLenSet, ↓wp_mFrz, ↓wp_mFld, ↓wp_mMeth, ↓wp_mMake, ↓wp_mLenO, ↓wp_mEqO, ↓wp_mNeO, ↓wp_mLc, ↓wp_mLcB, ↓wp_miSeq, ↓wp_miRng, ↓wp_miZip, ↓wp_miEnum, ↓wp_gmName, ↓wp_gmNil, ↓wp_gmCons, ↓wp_gmTup, ↓wp_gmSub, ↓wp_mYes, ↓wpR_ok, wpO_some, wpB_true, wpB_false, wpB_not, wpI_true, asB_bl, asI_int, asT_tup, asS_str, two_two, three_three, isNon_non, cI_int, pad, wipeE, List.getElem?_cons_zero, List.getElem?_cons_succ, List.set_cons_zero, List.set_cons_succ, fAdd_int, fSub_int, fLt_int, fLe_int, fGt_int, fGe_int, fEq_int, fNe_int, fNeg_int, stm_ix0, stm_ix1, stm_ix2, stm_ix3, stm_set1, stm_set2, stm_set3, stm_ne, stm_tyL0, gInt_int, tyS_str, stm_len, stm_app])
inductive ItOk (S : D → Prop) : Nat → D → Prop where
  | w {z : Str} (h : NameOk z) : ItOk S 119 (.str z)
  | c {z : Str} (h : NameOk z) : ItOk S 99 (.str z)
  | f {z : Str} (h : NameOk z) (hb : z ≠ "back") : ItOk S 102 (.str z)
  | n {i : Int} (h : i.natAbs < 10 ^ 30) : ItOk S 110 (.int i)
  | t {i : Int} (h : 0 ≤ i) (h2 : i ≤ 3) : ItOk S 116 (.int i)
  | h {zs : List Str} (hd : zs.Nodup) (hl : zs.length ≤ 6) (h : ∀ z ∈ zs, NameOk z) : ItOk S 104 (.tup (zs.map .str))
  | l {ss : List D} (h : ∀ x ∈ ss, S x) : ItOk S 108 (.tup ss)
def StepOk : Nat → D → Prop
  | 0, _ => False
  | n + 1, d => ∃ (w sh : Str) (its : List D), d = .tup (.str w :: its) ∧ T_SHAPES.lookup w = some sh ∧ Paired (ItOk (StepOk n)) sh.cps.toList its
theorem mkStep {n : Nat} {w sh : Str} {cs : List Nat} {its : List D} (h1 : T_SHAPES.lookup w = some sh) (h2 : sh.cps.toList = cs) (h3 : Paired (ItOk (StepOk n)) cs its) : StepOk (n + 1) (.tup (.str w :: its)) := ⟨w, sh, its, rfl, h1, by rw [h2]; exact h3⟩
theorem ItOk.mono {S S' : D → Prop} (h : ∀ x, S x → S' x) {c : Nat} {d : D} (i : ItOk S c d) : ItOk S' c d := by
  cases i with
  | w z => exact .w z
  | c z => exact .c z
  | f z b => exact .f z b
  | n z => exact .n z
  | t a b => exact .t a b
  | h a b c => exact .h a b c
  | l a => exact .l fun x hx => h x (a x hx)
theorem StepOk.succ : ∀ {n : Nat} {d : D}, StepOk n d → StepOk (n + 1) d
  | 0, _, h => h.elim
  | n + 1, _, ⟨w, sh, its, e, h1, h2⟩ => ⟨w, sh, its, e, h1, Paired.mapP h2 fun _ _ q => q.mono fun _ => StepOk.succ⟩
theorem StepOk.mono {n m : Nat} {d : D} (h : StepOk n d) (hm : n ≤ m) : StepOk m d := by
  induction hm with
  | refl => exact h
  | step _ ih => exact ih.succ
/-- the lists of steps among the items -/
def lstsOf : List Nat → List D → List (List D)
  | c :: cs, d :: ds => (if c = 108 then match d with
      | .tup l => [l]
      | _ => []
    else []) ++ lstsOf cs ds
  | _, _ => []
def inner (d : D) : List (List D) := match d with
  | .tup (.str w :: its) => (match T_SHAPES.lookup w with
    | some sh => lstsOf sh.cps.toList its
    | none => [])
  | _ => []
def allS : Nat → List D → List D
  | 0, _ => []
  | n + 1, ds => ds.flatMap fun d => d :: (inner d).flatMap (allS n)
theorem inner_mk {w sh : Str} {cs : List Nat} {its : List D} (h1 : T_SHAPES.lookup w = some sh) (h2 : sh.cps.toList = cs) : inner (.tup (.str w :: its)) = lstsOf cs its := by
  unfold inner
  dsimp only
  rw [h1]
  dsimp only
  rw [h2]
theorem allS_one {n : Nat} {d : D} : allS (n + 1) [d] = d :: (inner d).flatMap (allS n) := by simp [allS]
theorem allS_app : ∀ {n : Nat} {ds es : List D}, allS n (ds ++ es) = allS n ds ++ allS n es
  | 0, _, _ => rfl
  | n + 1, ds, es => by simp only [allS, List.flatMap_append]
/-! the shapes -/
theorem sh_say : T_SHAPES.lookup (Str.ofString "say") = some "w" := by decide
theorem sh_set : T_SHAPES.lookup (Str.ofString "set") = some "cn" := by decide
theorem sh_add : T_SHAPES.lookup (Str.ofString "add") = some "cn" := by decide
theorem sh_copy : T_SHAPES.lookup (Str.ofString "copy") = some "ccn" := by decide
theorem sh_less : T_SHAPES.lookup (Str.ofString "less") = some "cnll" := by decide
theorem sh_below : T_SHAPES.lookup (Str.ofString "below") = some "ccnll" := by decide
theorem sh_times : T_SHAPES.lookup (Str.ofString "times") = some "tl" := by decide
theorem sh_fault : T_SHAPES.lookup (Str.ofString "fault") = some "f" := by decide
theorem sh_catch : T_SHAPES.lookup (Str.ofString "catch") = some "fhll" := by decide
theorem sh_last : T_SHAPES.lookup (Str.ofString "last") = some "ll" := by decide
theorem sh_back : T_SHAPES.lookup (Str.ofString "back") = some "" := by decide
theorem sh_either : T_SHAPES.lookup (Str.ofString "either") = some "hll" := by decide
theorem sh_whether : T_SHAPES.lookup (Str.ofString "whether") = some "hlll" := by decide
theorem sh_each : T_SHAPES.lookup (Str.ofString "each") = some "hll" := by decide
theorem sh_hole : T_SHAPES.lookup (Str.ofString "hole") = some "" := by decide
theorem cs_w : (Str.ofString "w").cps.toList = [119] := by decide
theorem cs_cn : (Str.ofString "cn").cps.toList = [99, 110] := by decide
theorem cs_ccn : (Str.ofString "ccn").cps.toList = [99, 99, 110] := by decide
theorem cs_cnll : (Str.ofString "cnll").cps.toList = [99, 110, 108, 108] := by decide
theorem cs_ccnll : (Str.ofString "ccnll").cps.toList = [99, 99, 110, 108, 108] := by decide
theorem cs_tl : (Str.ofString "tl").cps.toList = [116, 108] := by decide
theorem cs_f : (Str.ofString "f").cps.toList = [102] := by decide
theorem cs_fhll : (Str.ofString "fhll").cps.toList = [102, 104, 108, 108] := by decide
theorem cs_ll : (Str.ofString "ll").cps.toList = [108, 108] := by decide
theorem cs_0 : (Str.ofString "").cps.toList = [] := by decide
theorem cs_hll : (Str.ofString "hll").cps.toList = [104, 108, 108] := by decide
theorem cs_hlll : (Str.ofString "hlll").cps.toList = [104, 108, 108, 108] := by decide
/-! ### the store grows, one box may change -/
structure Kp (lf : Nat) (t t' : Sto) : Prop where
  len : t.length ≤ t'.length
  at_ : ∀ i, i < t.length → i ≠ lf → t'[i]? = t[i]?
theorem Kp.refl {lf : Nat} {t : Sto} : Kp lf t t := ⟨Nat.le_refl _, fun _ _ _ => rfl⟩
theorem Kp.trans {lf : Nat} {t t1 t2 : Sto} (a : Kp lf t t1) (b : Kp lf t1 t2) : Kp lf t t2 := ⟨Nat.le_trans a.len b.len, fun i h1 h2 => by rw [b.at_ i (Nat.lt_of_lt_of_le h1 a.len) h2, a.at_ i h1 h2]⟩
theorem Kp.app {lf : Nat} {t u : Sto} : Kp lf t (t ++ u) := ⟨by simp, fun i h _ => List.getElem?_append_left h⟩
theorem Kp.set {lf : Nat} {t : Sto} {o : Ob} : Kp lf t (t.set lf o) := ⟨by simp, fun i _ h => List.getElem?_set_ne (Ne.symm h)⟩
theorem Kp.get {lf : Nat} {t t' : Sto} (k : Kp lf t t') {i : Nat} {o : Ob} (h : t[i]? = some o) (hi : i ≠ lf) : t'[i]? = some o := by
  rw [k.at_ i (List.getElem?_eq_some_iff.mp h).1 hi]; exact h
def Lf (t : Sto) (lf : Nat) (c k n : Int) : Prop := t[lf]? = some (.lst [.int c, .int k, .int n])
structure PoolA (t : Sto) (p a b c : Nat) (ca wa fa : List Str) : Prop where
  d : t[p]? = some (.dct [(.inr "cells", .ref (a + 2)), (.inr "words", .ref (b + 2)), (.inr "faults", .ref (c + 2))])
  a : t[a]? = some (.lst (ca.map .str))
  b : t[b]? = some (.lst (wa.map .str))
  c : t[c]? = some (.lst (fa.map .str))
  an : ca.Nodup
  al : 1 ≤ ca.length ∧ ca.length ≤ 6
  bl : 1 ≤ wa.length ∧ wa.length ≤ 6
  cl : 1 ≤ fa.length ∧ fa.length ≤ 6
  ao : ∀ z ∈ ca, NameOk z
  bo : ∀ z ∈ wa, NameOk z
  co : ∀ z ∈ fa, NameOk z ∧ z ≠ "back"
def Pool (t : Sto) (p : Nat) : Prop := ∃ a b c ca wa fa, PoolA t p a b c ca wa fa
theorem strs_ne_ints {l : List Str} (hl : 1 ≤ l.length) {c k n : Int} : (Ob.lst (l.map D.str)) ≠ .lst [.int c, .int k, .int n] := by
  cases l with
  | nil => simp at hl
  | cons z l => simp
theorem Pool.keep {t t' : Sto} {p lf : Nat} {c k n : Int} (h : Pool t p) (hl : Lf t lf c k n) (kp : Kp lf t t') : Pool t' p := by
  obtain ⟨a, b, e, ca, wa, fa, P⟩ := h
  have ne : ∀ {i : Nat} {o : Ob}, t[i]? = some o → o ≠ .lst [.int c, .int k, .int n] → i ≠ lf := fun {i o} h1 h2 e => by
    subst e
    unfold Lf at hl
    rw [hl] at h1
    exact h2 (Option.some.inj h1).symm
  exact ⟨a, b, e, ca, wa, fa, ⟨kp.get P.d (ne P.d (by simp)), kp.get P.a (ne P.a (strs_ne_ints P.al.1)), kp.get P.b (ne P.b (strs_ne_ints P.bl.1)), kp.get P.c (ne P.c (strs_ne_ints P.cl.1)), P.an, P.al, P.bl, P.cl, P.ao, P.bo, P.co⟩⟩
theorem key_str {z : Str} : key? (.str z) = some (.inr z) := rfl
section
variable {q : Sp0} {t : Sto} {p a b c : Nat} {ca wa fa : List Str}
theorem PoolA.dct (P : PoolA t p a b c ca wa fa) : dct? (stm q t) (.ref (p + 2)) = some [(.inr "cells", .ref (a + 2)), (.inr "words", .ref (b + 2)), (.inr "faults", .ref (c + 2))] := by
  unfold dct?
  dsimp only
  rw [stm_get, P.d]
theorem PoolA.cells (P : PoolA t p a b c ca wa fa) : dg? (stm q t) (.ref (p + 2)) (.str "cells") = some (.ref (a + 2)) := by
  unfold dg?
  rw [P.dct, key_str]
  simp [getK]
theorem PoolA.words (P : PoolA t p a b c ca wa fa) : dg? (stm q t) (.ref (p + 2)) (.str "words") = some (.ref (b + 2)) := by
  unfold dg?
  rw [P.dct, key_str]
  have h1 : (Str.ofString "cells") ≠ (Str.ofString "words") := by decide
  simp [getK, h1]
theorem PoolA.faults (P : PoolA t p a b c ca wa fa) : dg? (stm q t) (.ref (p + 2)) (.str "faults") = some (.ref (c + 2)) := by
  unfold dg?
  rw [P.dct, key_str]
  have h1 : (Str.ofString "cells") ≠ (Str.ofString "faults") := by decide
  have h2 : (Str.ofString "words") ≠ (Str.ofString "faults") := by decide
  simp [getK, h1, h2]
end
theorem wp_pickS {q : Sp0} {t : Sto} {k : Nat} {zs : List Str} {Q : D → Sto → Prop} {E : XP} (hq : q.Ok) (hb : q.b < 9000000) (hk : t[k]? = some (.lst (zs.map .str))) (h1 : 1 ≤ zs.length) (h2 : zs.length ≤ 1000)
    (h : ∀ (z : Str) (q' : Sp0), z ∈ zs → Adv q q' 1 → Q (.str z) (stm q' t)) : wpR (l_pick [.ref 1, .ref (k + 2)] (stm q t)) Q E := by
  refine wp_pick (n := zs.length) hq (by omega) (by omega) (by omega) (fun q => by rw [gLen_stm hk, List.length_map]) fun i q' hi a => ?_
  have hg : zs[i]? = some zs[i] := List.getElem?_eq_getElem hi
  rw [fIx_stm hk, atI_nat (x := D.str zs[i]) (by rw [List.getElem?_map, hg]; rfl), wpO_some]
  exact h _ q' (List.getElem_mem _) a
theorem pop_stm {q : Sp0} {t : Sto} {k i : Nat} {l : List D} (h : t[k]? = some (.lst l)) (hi : i < l.length) (hl : l.length ≤ 1000000) : bPopAt (stm q t) (.ref (k + 2)) [.int i] = some (l[i], stm q (t.set k (.lst (l.eraseIdx i)))) := by
  unfold bPopAt
  dsimp only
  rw [box_stm h, Option.bind_some]
  dsimp only
  rw [if_pos (by simp; omega)]
  have e : seqIndex? (i : Int) l.length = some i := by
    unfold seqIndex?
    rw [if_neg (show ¬ (i : Int) < 0 by omega)]
    simp [hi]
  rw [e]
  dsimp only
  rw [List.getElem?_eq_getElem hi, Option.map_some, stm_upd]
theorem asS_map : ∀ zs : List Str, (zs.map D.str).filterMap asS = zs
  | [] => rfl
  | z :: zs => by rw [List.map_cons, List.filterMap_cons, asS_map zs]; rfl
theorem perm_erase : ∀ {l : List D} {i : Nat} (h : i < l.length), (l[i] :: l.eraseIdx i).Perm l
  | [], _, h => absurd h (Nat.not_lt_zero _)
  | a :: l, 0, _ => List.Perm.refl _
  | a :: l, i + 1, h => by
    have ih := perm_erase (l := l) (i := i) (Nat.lt_of_succ_lt_succ h)
    exact (List.Perm.swap _ _ _).trans (List.Perm.cons a ih)
theorem wp_mixed {q : Sp0} {t : Sto} {x : D} {xs : List D} {Q : D → Sto → Prop} {E : XP} (hq : q.Ok) (hb : q.b < 9000000) (hx : seqS (stm q t) x = some xs) (hl : xs.length ≤ 1000)
    (h : ∀ (ys : List D) (q' : Sp0), ys.Perm xs → Adv q q' xs.length → Q (.lst ys) (stm q' (t ++ [.lst []]))) : wpR (l_mixed [.ref 1, x] (stm q t)) Q E := by
  unfold l_mixed
  refine wp_fn (by simp) ?_
  walk_at "wp"
  have e1 : gListB (stm q t) [x] = some (.ref (t.length + 2), stm q (t ++ [.lst xs])) := by
    unfold gListB
    dsimp only
    rw [hx, Option.map_some, stm_len, stm_app]
  rw [e1]
  walk_at "wp"
  rw [gLen_stm last_get]
  walk_at "wp"
  rw [rng_nat (by omega)]
  walk_at "wp"
  refine wpI_intro (le_line (by rw [upto_len]; omega)) ?_
  refine wp_lcB (fun rest acc s => ∃ (q' : Sp0) (l : List D), s = stm q' (t ++ [.lst l]) ∧ Adv q q' acc.length ∧ (acc ++ l).Perm xs ∧ l.length = rest.length) ?_ ?_ ⟨q, xs, rfl, (Adv.refl hq).mono (by simp), by simp, by simp [upto_len]⟩
  · rintro d ds acc s ⟨q1, l, rfl, a1, pm, hn⟩
    refine ⟨trivial, ?_⟩
    have e1 := a1.hi
    have hlen := pm.length_eq
    simp at hn hlen
    walk_at "wp"
    rw [tyL_stm last_get]
    walk_at "wp"
    rw [gLen_stm last_get]
    walk_at "wp"
    refine wp_draw a1.ok (by omega) (by omega) (by omega) fun i q2 h2 a2 => ?_
    have hi : i < l.length := by omega
    walk_at "wp"
    rw [pop_stm last_get hi (by omega), last_set]
    walk_at "wp"
    refine ⟨q2, _, rfl, a1.trans a2 (by simp), ?_, ?_⟩
    · refine List.Perm.trans ?_ pm
      rw [List.append_assoc]
      exact List.Perm.append_left acc (perm_erase hi)
    · rw [List.length_eraseIdx_of_lt hi]; omega
  · rintro acc s ⟨q1, l, rfl, a1, pm, hn⟩
    refine ⟨trivial, ?_⟩
    have hl0 : l = [] := List.eq_nil_of_length_eq_zero (by simpa using hn)
    subst hl0
    rw [List.append_nil] at pm
    have := pm.length_eq
    exact h acc q1 pm (a1.mono (by omega))
theorem wp_held {q : Sp0} {t : Sto} {p : Nat} {Q : D → Sto → Prop} {E : XP} (hq : q.Ok) (hb : q.b < 8000000) (hp : Pool t p)
    (h : ∀ (zs : List Str) (q' : Sp0), zs.Nodup → zs.length ≤ 6 → (∀ z ∈ zs, NameOk z) → Adv q q' 12 → Q (.tup (zs.map .str)) (stm q' (t ++ [.lst []]))) : wpR (l_held [.ref 1, .ref (p + 2)] (stm q t)) Q E := by
  obtain ⟨a, b, c, ca, wa, fa, P⟩ := hp
  unfold l_held
  refine wp_fn (by simp) ?_
  walk_at "wp"
  rw [P.cells]
  walk_at "wp"
  have hal := P.al
  refine wp_mixed (xs := ca.map .str) hq (by omega) (show items? (stm q t) (.ref (a + 2)) = _ from items_stm P.a) (by simp; omega) fun ys q1 pm a1 => ?_
  have e1 := a1.hi
  rw [List.length_map] at e1
  have hys : ∃ zs : List Str, ys = zs.map .str ∧ zs.Perm ca := by
    have : ∀ y ∈ ys, ∃ z, y = D.str z := fun y hy => by
      obtain ⟨z, _, rfl⟩ := List.mem_map.mp (pm.mem_iff.mp hy)
      exact ⟨z, rfl⟩
    have hex : ∃ zs : List Str, ys = zs.map .str := by
      clear pm e1 a1
      induction ys with
      | nil => exact ⟨[], rfl⟩
      | cons y ys ih =>
        obtain ⟨z, rfl⟩ := this y List.mem_cons_self
        obtain ⟨zs, rfl⟩ := ih fun y hy => this y (List.mem_cons_of_mem _ hy)
        exact ⟨z :: zs, rfl⟩
    obtain ⟨zs, rfl⟩ := hex
    refine ⟨zs, rfl, ?_⟩
    have := pm.filterMap asS
    rw [asS_map, asS_map] at this
    exact this
  obtain ⟨zs, rfl, pz⟩ := hys
  have hnd : zs.Nodup := pz.nodup_iff.mpr P.an
  have hzl := pz.length_eq
  have hzo : ∀ z ∈ zs, NameOk z := fun z hz => P.ao z (pz.mem_iff.mp hz)
  walk_at "wp"
  have e2 : ∀ s, seqOf s (.lst (zs.map .str)) = some (zs.map .str, any_) := fun s => rfl
  rw [e2]
  walk_at "wp"
  refine wpI_intro (le_line (by simp; omega)) ?_
  refine wp_lcB (fun rest acc s => ∃ (q' : Sp0) (us ws : List Str), s = stm q' (t ++ [.lst []]) ∧ acc = us.map .str ∧ rest = ws.map .str ∧ (us ++ ws).Nodup ∧ (∀ z ∈ us ++ ws, NameOk z) ∧ us.length + ws.length ≤ 6 ∧ q'.Ok ∧ q.b ≤ q'.b ∧ q'.b + ws.length ≤ q1.b + ca.length) ?_ ?_ ⟨q1, [], zs, rfl, rfl, rfl, by simpa using hnd, by simpa using hzo, by simp; omega, a1.ok, a1.lo, by omega⟩
  · rintro d ds acc s ⟨q2, us, ws, rfl, rfl, hr, hnd, hok, hln, hq2, hlo, hhi⟩
    refine ⟨trivial, ?_⟩
    cases ws with
    | nil => cases hr
    | cons w ws =>
      rw [List.map_cons] at hr
      injection hr with hr1 hr2
      subst hr1 hr2
      simp only [List.length_cons] at hln hhi
      walk_at "wp"
      refine wp_draw hq2 (by omega) (by decide) (by decide) fun i q3 h3 a3 => ?_
      have e3 := a3.hi
      have e3' := a3.lo
      walk_at "wp"
      refine wpB_dec (fun hi => ?_) (fun hi => ?_)
      · walk_at "wp"
        exact ⟨q3, us ++ [w], ws, rfl, by simp, rfl, by simpa using hnd, by simpa using hok, by simp; omega, a3.ok, by omega, by omega⟩
      · refine ⟨q3, us, ws, rfl, rfl, rfl, ?_, fun z hz => hok z ?_, by omega, a3.ok, by omega, by omega⟩
        · exact hnd.sublist ((List.sublist_cons_self w ws).append_left us)
        · rcases List.mem_append.mp hz with h | h
          · exact List.mem_append_left _ h
          · exact List.mem_append_right _ (List.mem_cons_of_mem _ h)
  · rintro acc s ⟨q2, us, ws, rfl, rfl, hr, hnd, hok, hln, hq2, hlo, hhi⟩
    refine ⟨trivial, ?_⟩
    have hw : ws = [] := by cases ws with
      | nil => rfl
      | cons _ _ => cases hr
    subst hw
    walk_at "wp"
    have e5 : ∀ s, gTuple s [.lst (us.map .str)] = some (.tup (us.map .str)) := fun s => rfl
    rw [e5]
    walk_at "wp"
    rw [List.append_nil] at hnd hok
    exact h us q2 hnd (by simpa using hln) hok ⟨hq2, hlo, by simp at hhi; omega⟩
end MP

set_option Elab.async false
set_option linter.all false
set_option maxRecDepth 100000
set_option maxHeartbeats 4000000
/-! PG4: plain steps, times -/
namespace MP
open PySem L2
local macro_rules | `(tactic| walk_at "wp") => `(tactic| try simp only [↓wp_mSeq, ↓wp_mNext, ↓wp_mBrk, ↓wp_mCnt, ↓wp_mExpr, ↓wp_mRet, ↓wp_mRetN, ↓wp_mIf, ↓wp_mSet, ↓wp_mPar, ↓wp_mPar3, ↓wp_mAsg, ↓wp_mFor, ↓wp_mDPut, ↓wp_mFldSet, ↓wp_mVar, ↓wp_mC, ↓wp_mOp, ↓wp_mUn, ↓wp_mNil, ↓wp_mCons, ↓wp_mStar, ↓wp_mTup, ↓wp_mLst, ↓wp_mLstB, ↓wp_mIfE, ↓wp_mTst, ↓wp_mNot, ↓wp_mAnd, ↓wp_mOr, ↓wp_mAndV, ↓wp_mOrV, ↓wp_mNotV, ↓wp_mChain, ↓wp_mCall, ↓wp_mCallB, ↓wpO_pu, ↓wp_mBm, ↓wp_mBm0, ↓wp_moN, ↓wp_moS, ↓wp_mSl, ↓wp_mIsi, ↓wp_mTab, ↓wp_mTabIn, ↓wp_mTabNotIn, ↓wp_mDGet, ↓wp_mDGet2, ↓wp_mDNew, ↓wp_mSortSet, ↓wp_mSortSetB, ↓wp_mLenSet, ↓wp_mFrz, ↓wp_mFld, ↓wp_mMeth, ↓wp_mMake, ↓wp_mLenO, ↓wp_mEqO, ↓wp_mNeO, ↓wp_mLc, ↓wp_mLcB, ↓wp_miSeq, ↓wp_miRng, ↓wp_miZip, ↓wp_miEnum, ↓wp_gmName, ↓wp_gmNil, ↓wp_gmCons, ↓wp_gmTup, ↓wp_gmSub, ↓wp_mYes, ↓wpR_ok, wpO_some, wpB_true, wpB_false, wpB_not, wpI_true, asB_bl, asI_int, asT_tup, asS_str, two_two, three_three, isNon_non, cI_int, pad, wipeE, List.getElem?_cons_zero, List.getElem?_cons_succ, List.set_cons_zero, List.set_cons_succ, fAdd_int, fSub_int, fLt_int, fLe_int, fGt_int, fGe_int, fEq_int, fNe_int, fNeg_int, stm_ix0, stm_ix1, stm_ix2, stm_ix3, stm_set1, stm_set2, stm_set3, stm_ne, stm_tyL0, gInt_int, tyS_str, stm_len, stm_app])
structure PlainOk (r : D) : Prop where
  ok : StepOk 1 r
  inn : inner r = []
theorem PlainOk.at_ {r : D} (h : PlainOk r) (m : Nat) : StepOk (m + 1) r := h.ok.mono (by omega)
theorem PlainOk.all {r : D} (h : PlainOk r) (m : Nat) : allS (m + 1) [r] = [r] := by rw [allS_one, h.inn]; rfl
theorem plains_all {m : Nat} : ∀ {rs : List D}, (∀ r ∈ rs, PlainOk r) → allS (m + 1) rs = rs
  | [], _ => rfl
  | r :: rs, h => by
    have e : r :: rs = [r] ++ rs := rfl
    rw [e, allS_app, (h r List.mem_cons_self).all, plains_all fun x hx => h x (List.mem_cons_of_mem _ hx)]
theorem plain_mk {w sh : Str} {cs : List Nat} {its : List D} (h1 : T_SHAPES.lookup w = some sh) (h2 : sh.cps.toList = cs) (h3 : Paired (ItOk (StepOk 0)) cs its) (h4 : lstsOf cs its = []) : PlainOk (.tup (.str w :: its)) := ⟨mkStep h1 h2 h3, by rw [inner_mk h1 h2, h4]⟩
theorem wp_plain {q : Sp0} {t : Sto} {p : Nat} {Q : D → Sto → Prop} {E : XP} (hq : q.Ok) (hb : q.b < 8000000) (hp : Pool t p)
    (h : ∀ (r : D) (q' : Sp0), PlainOk r → Adv q q' 6 → Q r (stm q' t)) : wpR (l_plain [.ref 1, .ref (p + 2)] (stm q t)) Q E := by
  obtain ⟨a, b, c, ca, wa, fa, P⟩ := hp
  have hal := P.al
  have hbl := P.bl
  have hcl := P.cl
  unfold l_plain
  refine wp_fn (by simp) ?_
  walk_at "wp"
  refine wp_draw hq (by omega) (by decide) (by decide) fun i q1 h1 a1 => ?_
  have e1 := a1.hi
  walk_at "wp"
  rw [P.cells]
  walk_at "wp"
  refine wp_pickS a1.ok (by omega) P.a (by omega) (by omega) fun z q2 hz a2 => ?_
  have e2 := a2.hi
  have hz := P.ao z hz
  walk_at "wp"
  refine wpB_dec (fun hi => ?_) (fun hi => ?_)
  · walk_at "wp"
    rw [P.words]
    walk_at "wp"
    refine wp_pickS a2.ok (by omega) P.b (by omega) (by omega) fun y q3 hy a3 => ?_
    walk_at "wp"
    refine wpI_intro (le_line (by simp)) ?_
    exact h _ q3 (plain_mk sh_say cs_w (.cons (.w (P.bo y hy)) .nil) rfl) ((a1.trans a2 (Int.le_refl _)).trans a3 (by decide))
  walk_at "wp"
  refine wpB_dec (fun hi2 => ?_) (fun hi2 => ?_)
  · walk_at "wp"
    refine wpI_intro (le_line (by simp)) ?_
    walk_at "wp"
    rw [fDiv_int (by decide) (by decide)]
    walk_at "wp"
    have ew : ∃ w : Str, atI [D.str "set", .str "add"] ((i : Int) / 5) = some (.str w) ∧ T_SHAPES.lookup w = some "cn" := by
      by_cases h5 : i < 5
      · have : (i : Int) / 5 = (0 : Nat) := by omega
        rw [this]
        exact ⟨"set", atI_nat rfl, sh_set⟩
      · have : (i : Int) / 5 = (1 : Nat) := by omega
        rw [this]
        exact ⟨"add", atI_nat rfl, sh_add⟩
    obtain ⟨w, ew, hw⟩ := ew
    rw [fIx_lst, ew]
    walk_at "wp"
    refine wp_number a2.ok (by omega) fun n q3 hn a3 => ?_
    walk_at "wp"
    refine wpI_intro (le_line (by simp)) ?_
    exact h _ q3 (plain_mk hw cs_cn (.cons (.c hz) (.cons (.n hn) .nil)) rfl) ((a1.trans a2 (Int.le_refl _)).trans a3 (by decide))
  walk_at "wp"
  refine wpB_dec (fun hi3 => ?_) (fun hi3 => ?_)
  · walk_at "wp"
    rw [P.cells]
    walk_at "wp"
    refine wp_pickS a2.ok (by omega) P.a (by omega) (by omega) fun y q3 hy a3 => ?_
    have e3 := a3.hi
    walk_at "wp"
    refine wp_number a3.ok (by omega) fun n q4 hn a4 => ?_
    walk_at "wp"
    refine wpI_intro (le_line (by simp)) ?_
    exact h _ q4 (plain_mk sh_copy cs_ccn (.cons (.c hz) (.cons (.c (P.ao y hy)) (.cons (.n hn) .nil))) rfl) (((a1.trans a2 (Int.le_refl _)).trans a3 (Int.le_refl _)).trans a4 (by decide))
  walk_at "wp"
  refine wpB_dec (fun hi4 => ?_) (fun hi4 => ?_)
  · walk_at "wp"
    rw [P.faults]
    walk_at "wp"
    refine wp_pickS a2.ok (by omega) P.c (by omega) (by omega) fun y q3 hy a3 => ?_
    walk_at "wp"
    refine wpI_intro (le_line (by simp)) ?_
    exact h _ q3 (plain_mk sh_fault cs_f (.cons (.f (P.co y hy).1 (P.co y hy).2) .nil) rfl) ((a1.trans a2 (Int.le_refl _)).trans a3 (by decide))
  walk_at "wp"
  refine wpB_dec (fun hi5 => ?_) (fun hi5 => ?_)
  · walk_at "wp"
    refine wpI_intro (le_line (by simp)) ?_
    exact h _ q2 (plain_mk sh_back cs_0 .nil rfl) (a1.trans a2 (by decide))
  · walk_at "wp"
    refine wpI_intro (le_line (by simp)) ?_
    exact h _ q2 (plain_mk sh_hole cs_0 .nil rfl) (a1.trans a2 (by decide))
theorem wp_plains {q : Sp0} {t : Sto} {p : Nat} {Q : D → Sto → Prop} {E : XP} (hq : q.Ok) (hb : q.b < 7000000) (hp : Pool t p)
    (h : ∀ (rs : List D) (q' : Sp0), (∀ r ∈ rs, PlainOk r) → rs.length ≤ 2 → Adv q q' 13 → Q (.tup rs) (stm q' t)) : wpR (l_plains [.ref 1, .ref (p + 2), .int 2] (stm q t)) Q E := by
  unfold l_plains
  refine wp_fn (by simp) ?_
  walk_at "wp"
  refine wp_draw hq (by omega) (by decide) (by decide) fun i q1 h1 a1 => ?_
  have e1 := a1.hi
  walk_at "wp"
  rw [rng_nat (by omega)]
  walk_at "wp"
  refine wpI_intro (le_line (by rw [upto_len]; omega)) ?_
  refine wp_lcB (fun rest acc s => ∃ q2 : Sp0, s = stm q2 t ∧ (∀ r ∈ acc, PlainOk r) ∧ acc.length + rest.length = i ∧ Adv q1 q2 (6 * acc.length)) ?_ ?_ ⟨q1, rfl, by simp, by simp [upto_len], (Adv.refl a1.ok).mono (by simp)⟩
  · rintro d ds acc s ⟨q2, rfl, hacc, hn, a2⟩
    refine ⟨trivial, ?_⟩
    have e2 := a2.hi
    simp at hn
    walk_at "wp"
    refine wp_plain a2.ok (by omega) hp fun r q3 hr a3 => ?_
    exact ⟨q3, rfl, fun x hx => by
      rcases List.mem_append.mp hx with h | h
      · exact hacc x h
      · have : x = r := by simpa using h
        rw [this]; exact hr, by simp; omega, a2.trans a3 (by simp; omega)⟩
  · rintro acc s ⟨q2, rfl, hacc, hn, a2⟩
    refine ⟨trivial, ?_⟩
    simp at hn
    walk_at "wp"
    have e5 : ∀ s, gTuple s [.lst acc] = some (.tup acc) := fun s => rfl
    rw [e5]
    walk_at "wp"
    exact h acc q2 hacc (by omega) (a1.trans a2 (by omega))
section
variable {q : Sp0} {t : Sto} {lf : Nat} {c k n v : Int}
theorem Lf.lt (h : Lf t lf c k n) : lf < t.length := (List.getElem?_eq_some_iff.mp h).1
theorem Lf.ix0 (h : Lf t lf c k n) : fIx (stm q t) (.ref (lf + 2)) (.int 0) = some (.int c) := by rw [fIx_stm h]; rfl
theorem Lf.ix1 (h : Lf t lf c k n) : fIx (stm q t) (.ref (lf + 2)) (.int 1) = some (.int k) := by rw [fIx_stm h]; rfl
theorem Lf.ix2 (h : Lf t lf c k n) : fIx (stm q t) (.ref (lf + 2)) (.int 2) = some (.int n) := by rw [fIx_stm h]; rfl
theorem Lf.set0 (h : Lf t lf c k n) : sub? (stm q t) (.ref (lf + 2)) 0 (.int v) = some (stm q (t.set lf (.lst [.int v, .int k, .int n]))) := sub_stm (i := 0) h (by simp)
theorem Lf.set1 (h : Lf t lf c k n) : sub? (stm q t) (.ref (lf + 2)) 1 (.int v) = some (stm q (t.set lf (.lst [.int c, .int v, .int n]))) := sub_stm (i := 1) h (by simp)
theorem Lf.set2 (h : Lf t lf c k n) : sub? (stm q t) (.ref (lf + 2)) 2 (.int v) = some (stm q (t.set lf (.lst [.int c, .int k, .int v]))) := sub_stm (i := 2) h (by simp)
theorem Lf.new (h : Lf t lf c k n) {c' k' n' : Int} : Lf (t.set lf (.lst [.int c', .int k', .int n'])) lf c' k' n' := by
  unfold Lf
  rw [List.getElem?_set_self h.lt]
theorem Lf.app (h : Lf t lf c k n) {u : Sto} : Lf (t ++ u) lf c k n := by
  unfold Lf
  rw [List.getElem?_append_left h.lt]
  exact h
end
/-- what a step that is made has brought about -/
structure Made (q q' : Sp0) (t t' : Sto) (lf : Nat) (c' k' n' : Int) (cost : Int) : Prop where
  kp : Kp lf t t'
  lf : Lf t' lf c' k' n'
  adv : Adv q q' cost
theorem wp_times {q : Sp0} {t : Sto} {p lf : Nat} {c k n : Int} {m : Nat} {Q : D → Sto → Prop} {E : XP} (hq : q.Ok) (hb : q.b < 6000000) (hp : Pool t p) (hl : Lf t lf c k n)
    (h : ∀ (r : D) (q' : Sp0) (t' : Sto) (c' n' : Int), StepOk (m + 3) r → ((allS (m + 3) [r]).length : Int) = 1 + (n - n') → n - 4 ≤ n' → Made q q' t t' lf c' k n' 40 → Q r (stm q' t')) : wpR (l_times [.ref 1, .ref (p + 2), .ref (lf + 2)] (stm q t)) Q E := by
  unfold l_times
  refine wp_fn (by simp) ?_
  walk_at "wp"
  refine wp_draw hq (by omega) (by decide) (by decide) fun i q1 h1 a1 => ?_
  have e1 := a1.hi
  walk_at "wp"
  refine wp_plains a1.ok (by omega) hp fun rs q2 hrs hrl a2 => ?_
  have e2 := a2.hi
  walk_at "wp"
  rw [hl.ix2]
  walk_at "wp"
  have eg : ∀ s, gLen s [.tup rs] = some (.int rs.length) := fun s => rfl
  rw [eg]
  walk_at "wp"
  rw [hl.set2]
  walk_at "wp"
  generalize ht1 : t.set lf (.lst [.int c, .int k, .int (n - rs.length)]) = t1
  have hl1 : Lf t1 lf c k (n - rs.length) := by rw [← ht1]; exact hl.new
  have k1 : Kp lf t t1 := by rw [← ht1]; exact Kp.set
  have hp1 := hp.keep hl k1
  have plainEnd : ∀ (q' : Sp0) (j : Int), Adv q q' 30 → 0 ≤ j → j ≤ 3 → Q (.tup [.str "times", .int j, .tup rs]) (stm q' t1) := fun q' j a hj1 hj2 => by
    refine h _ q' t1 c (n - rs.length) (mkStep sh_times cs_tl (.cons (.t hj1 hj2) (.cons (.l fun x hx => (hrs x hx).at_ (m + 1)) .nil))) ?_ (by omega) ⟨k1, hl1, a.mono (by decide)⟩
    rw [allS_one, inner_mk sh_times cs_tl]
    simp only [lstsOf]
    simp [plains_all (m := m + 1) hrs]
    omega
  refine wpB_dec (fun hi => ?_) (fun hi => ?_)
  · walk_at "wp"
    rw [hl1.ix0]
    walk_at "wp"
    refine wpB_dec (fun hc => ?_) (fun hc => ?_)
    · walk_at "wp"
      refine wp_draw a2.ok (by omega) (by decide) (by decide) fun j q3 h3 a3 => ?_
      have e3 := a3.hi
      walk_at "wp"
      refine wpB_dec (fun hj => ?_) (fun hj => ?_)
      · walk_at "wp"
        rw [hl1.ix0]
        walk_at "wp"
        rw [hl1.ix2]
        walk_at "wp"
        refine wpI_intro (le_line (by simp)) ?_
        walk_at "wp"
        rw [hl1.set0]
        walk_at "wp"
        generalize ht2 : t1.set lf (.lst [.int (c - i), .int k, .int (n - rs.length)]) = t2
        have hl2 : Lf t2 lf (c - i) k (n - rs.length) := by rw [← ht2]; exact hl1.new
        have k2 : Kp lf t1 t2 := by rw [← ht2]; exact Kp.set
        rw [hl2.set2]
        walk_at "wp"
        generalize ht3 : t2.set lf (.lst [.int (c - i), .int k, .int (n - rs.length - 2)]) = t3
        have hl3 : Lf t3 lf (c - i) k (n - rs.length - 2) := by rw [← ht3]; exact hl2.new
        have k3 : Kp lf t2 t3 := by rw [← ht3]; exact Kp.set
        have hp3 := hp.keep hl ((k1.trans k2).trans k3)
        refine wp_plain a3.ok (by omega) hp3 fun r q4 hr a4 => ?_
        have e4 := a4.hi
        walk_at "wp"
        refine wpI_intro (le_line (by simp)) ?_
        walk_at "wp"
        refine wp_held a4.ok (by omega) hp3 fun zs q5 z1 z2 z3 a5 => ?_
        walk_at "wp"
        refine wpI_intro (le_line (by simp)) ?_
        walk_at "wp"
        refine wpI_intro (le_line (by simp)) ?_
        walk_at "wp"
        refine wpI_intro (le_line (by simp)) ?_
        have hone : ∀ x ∈ [r], PlainOk x := by simpa using hr
        have he : StepOk (m + 2) (.tup [.str "either", .tup (zs.map .str), .tup rs, .tup [r]]) := mkStep sh_either cs_hll (.cons (.h z1 z2 z3) (.cons (.l fun x hx => (hrs x hx).at_ m) (.cons (.l fun x hx => (hone x hx).at_ m) .nil)))
        have ht : StepOk (m + 3) (.tup [.str "times", .int i, .tup [.tup [.str "either", .tup (zs.map .str), .tup rs, .tup [r]]]]) := mkStep sh_times cs_tl (.cons (.t (by omega) (by omega)) (.cons (.l (by simpa using he)) .nil))
        refine h _ q5 (t3 ++ [.lst []]) (c - i) (n - rs.length - 2) ht ?_ (by omega) ⟨((k1.trans k2).trans k3).trans Kp.app, hl3.app, ((((a1.trans a2 (Int.le_refl _)).trans a3 (Int.le_refl _)).trans a4 (Int.le_refl _)).trans a5 (by decide))⟩
        rw [allS_one, inner_mk sh_times cs_tl]
        simp only [lstsOf]
        simp [allS_one, inner_mk sh_either cs_hll, lstsOf, plains_all (m := m) hrs, hr.all m]
        omega
      · walk_at "wp"
        refine wpI_intro (le_line (by simp)) ?_
        exact plainEnd q3 i ((a1.trans a2 (Int.le_refl _)).trans a3 (by decide)) (by omega) (by omega)
    · walk_at "wp"
      refine wpI_intro (le_line (by simp)) ?_
      exact plainEnd q2 i (a1.trans a2 (by decide)) (by omega) (by omega)
  · walk_at "wp"
    refine wpI_intro (le_line (by simp)) ?_
    exact plainEnd q2 i (a1.trans a2 (by decide)) (by omega) (by omega)
end MP

set_option Elab.async false
set_option linter.all false
set_option maxRecDepth 100000
set_option maxHeartbeats 8000000
/-! PG5: steps, parts -/
namespace MP
open PySem L2
local macro_rules | `(tactic| walk_at "wp") => `(tactic| try simp only [↓wp_mSeq, ↓wp_mNext, ↓wp_mBrk, ↓wp_mCnt, ↓wp_mExpr, ↓wp_mRet, ↓wp_mRetN, ↓wp_mIf, ↓wp_mSet, ↓wp_mPar, ↓wp_mPar3, ↓wp_mAsg, ↓wp_mFor, ↓wp_mDPut, ↓wp_mFldSet, ↓wp_mVar, ↓wp_mC, ↓wp_mOp, ↓wp_mUn, ↓wp_mNil, ↓wp_mCons, ↓wp_mStar, ↓wp_mTup, ↓wp_mLst, ↓wp_mLstB, ↓wp_mIfE, ↓wp_mTst, ↓wp_mNot, ↓wp_mAnd, ↓wp_mOr, ↓wp_mAndV, ↓wp_mOrV, ↓wp_mNotV, ↓wp_mChain, ↓wp_mCall, ↓wp_mCallB, ↓wpO_pu, ↓wp_mBm, ↓wp_mBm0, ↓wp_moN, ↓wp_moS, ↓wp_mSl, ↓wp_mIsi, ↓wp_mTab, ↓wp_mTabIn, ↓wp_mTabNotIn, ↓wp_mDGet, ↓wp_mDGet2, ↓wp_mDNew, ↓wp_mSortSet, ↓wp_mSortSetB, ↓wp_mLenSet, ↓wp_mFrz, ↓wp_mFld, ↓wp_mMeth, ↓wp_mMake, ↓wp_mLenO, ↓wp_mEqO, ↓wp_mNeO, ↓wp_mLc, ↓wp_mLcB, ↓wp_miSeq, ↓wp_miRng, ↓wp_miZip, ↓wp_miEnum, ↓wp_gmName, ↓wp_gmNil, ↓wp_gmCons, ↓wp_gmTup, ↓wp_gmSub, ↓wp_mYes, ↓wpR_ok, wpO_some, wpB_true, wpB_false, wpB_not, wpI_true, asB_bl, asI_int, asT_tup, asS_str, two_two, three_three, isNon_non, cI_int, pad, wipeE, List.getElem?_cons_zero, List.getElem?_cons_succ, List.set_cons_zero, List.set_cons_succ, fAdd_int, fSub_int, fLt_int, fLe_int, fGt_int, fGe_int, fEq_int, fNe_int, fNeg_int, stm_ix0, stm_ix1, stm_ix2, stm_ix3, stm_set1, stm_set2, stm_set3, stm_ne, stm_tyL0, gInt_int, tyS_str, stm_len, stm_app])
def cost : Nat → Int
  | 0 => 6
  | d + 1 => 60 + 9 * cost d
theorem cost_pos : ∀ d, 6 ≤ cost d
  | 0 => by decide
  | d + 1 => by have := cost_pos d; simp only [cost]; omega
def StepSpec (d N : Nat) : Prop := ∀ {q : Sp0} {t : Sto} {p lf : Nat} {c k n : Int} {Q : D → Sto → Prop} {E : XP}, q.Ok → q.b + cost d < 5000000 → Pool t p → Lf t lf c k n → 1 ≤ n →
  (∀ (r : D) (q' : Sp0) (t' : Sto) (c' k' n' : Int), StepOk (d + 2) r → ((allS (d + 2) [r]).length : Int) = n - n' → -4 ≤ n' → Made q q' t t' lf c' k' n' (cost d) → Q r (stm q' t')) →
  wpR (l_step N [.ref 1, .ref (p + 2), .ref (lf + 2), .int d] (stm q t)) Q E
def StepsSpec (d N : Nat) : Prop := ∀ {q : Sp0} {t : Sto} {p lf : Nat} {c k n : Int} {Q : D → Sto → Prop} {E : XP}, q.Ok → q.b + (1 + 3 * cost d) < 5000000 → Pool t p → Lf t lf c k n → -4 ≤ n →
  (∀ (rs : List D) (q' : Sp0) (t' : Sto) (c' k' n' : Int), (∀ r ∈ rs, StepOk (d + 2) r) → ((allS (d + 2) rs).length : Int) = n - n' → -4 ≤ n' → Made q q' t t' lf c' k' n' (1 + 3 * cost d) → Q (.tup rs) (stm q' t')) →
  wpR (l_steps N [.ref 1, .ref (p + 2), .ref (lf + 2), .int d] (stm q t)) Q E
theorem steps_of {d N : Nat} (S : StepSpec d N) : StepsSpec d (N + 1) := by
  intro q t p lf c k n Q E hq hb hp hl hn h
  have hc := cost_pos d
  unfold l_steps
  refine wp_fn (by simp) ?_
  walk_at "wp"
  refine wpI_intro (le_line (by simp)) ?_
  walk_at "wp"
  refine wp_draw hq (by omega) (by decide) (by decide) fun i q1 h1 a1 => ?_
  have e1 := a1.hi
  have e1' := a1.lo
  walk_at "wp"
  rw [rng_nat (by omega)]
  walk_at "wp"
  have hlt := hl.lt
  refine wp_for (fun rest ρ s => ∃ (q2 : Sp0) (t2 : Sto) (c2 k2 n2 : Int) (rs : List D) (o5 : Option D), ρ = [some (.ref 1), some (.ref (p + 2)), some (.ref (lf + 2)), some (.int d), some (.ref (t.length + 2)), o5] ∧ s = stm q2 t2 ∧
    Kp lf t t2 ∧ Lf t2 lf c2 k2 n2 ∧ t2[t.length]? = some (.lst rs) ∧ (∀ r ∈ rs, StepOk (d + 2) r) ∧ ((allS (d + 2) rs).length : Int) = n - n2 ∧ -4 ≤ n2 ∧ q2.Ok ∧ q1.b ≤ q2.b ∧ q2.b + rest.length * cost d ≤ q1.b + 3 * cost d ∧ rs.length + rest.length ≤ 3) ?_ ?_
    ⟨q1, t ++ [.lst []], c, k, n, [], none, rfl, rfl, Kp.app, hl.app, last_get, by simp, by simp [allS], hn, a1.ok, Int.le_refl _, ?_, by rw [upto_len]; simp; omega⟩
  · rintro x rest ρ s ⟨q2, t2, c2, k2, n2, rs, o5, rfl, rfl, kp, hl2, hg, hrs, hcnt, hn2, hq2, hlo, hhi, hlen⟩
    refine ⟨trivial, ?_⟩
    walk_at "wp"
    rw [hl2.ix2]
    walk_at "wp"
    rw [List.length_cons] at hlen hhi
    have hmul : ((rest.length + 1 : Nat) : Int) * cost d = rest.length * cost d + cost d := by rw [Int.natCast_add, Int.add_mul]; omega
    rw [hmul] at hhi
    have hnn : 0 ≤ (rest.length : Int) * cost d := Int.mul_nonneg (by omega) (by omega)
    refine wpB_dec (fun hi => ?_) (fun hi => ?_)
    · walk_at "wp"
      rw [tyL_stm hg]
      walk_at "wp"
      refine S hq2 (by omega) (hp.keep hl kp) hl2 (by omega) fun r q3 t3 c3 k3 n3 hr hrc hn3 M => ?_
      have e3 := M.adv.hi
      have e3' := M.adv.lo
      have hg3 : t3[t.length]? = some (.lst rs) := M.kp.get hg (by omega)
      walk_at "wp"
      rw [app_stm hg3 (by omega)]
      walk_at "wp"
      have hlt3 : t.length < t3.length := (List.getElem?_eq_some_iff.mp hg3).1
      refine ⟨q3, t3.set t.length (.lst (rs ++ [r])), c3, k3, n3, rs ++ [r], _, rfl, rfl, ⟨by simp; omega, fun i hi1 hi2 => ?_⟩, ?_, by rw [List.getElem?_set_self hlt3], ?_, ?_, hn3, M.adv.ok, by omega, by omega, by simp; omega⟩
      · rw [List.getElem?_set_ne (by omega)]
        exact (kp.trans M.kp).at_ i hi1 hi2
      · unfold Lf
        rw [List.getElem?_set_ne (by omega)]
        exact M.lf
      · intro x hx
        rcases List.mem_append.mp hx with h | h
        · exact hrs x h
        · have : x = r := by simpa using h
          rw [this]; exact hr
      · rw [allS_app, List.length_append]
        omega
    · walk_at "wp"
      exact ⟨q2, t2, c2, k2, n2, rs, _, rfl, rfl, kp, hl2, hg, hrs, hcnt, hn2, hq2, hlo, by omega, by omega⟩
  · rintro ρ s ⟨q2, t2, c2, k2, n2, rs, o5, rfl, rfl, kp, hl2, hg, hrs, hcnt, hn2, hq2, hlo, hhi, hlen⟩
    refine ⟨trivial, ?_⟩
    walk_at "wp"
    have e5 : gTuple (stm q2 t2) [.ref (t.length + 2)] = some (.tup rs) := by
      unfold gTuple
      dsimp only
      rw [items_stm hg]
      rfl
    rw [e5]
    walk_at "wp"
    have hhi' : q2.b ≤ q1.b + 3 * cost d := by simpa using hhi
    exact h rs q2 t2 c2 k2 n2 hrs hcnt hn2 ⟨kp, hl2, hq2, by omega, by omega⟩
  · rw [upto_len]
    have : (i : Int) * cost d ≤ 3 * cost d := Int.mul_le_mul_of_nonneg_right (by omega) (by omega)
    omega
/-- lists of steps within a step -/
theorem lists_ok {n : Nat} {rs : List D} (h : ∀ r ∈ rs, StepOk n r) : ItOk (StepOk n) 108 (.tup rs) := .l h
theorem test_of {d N : Nat} (S : StepsSpec d N) {q : Sp0} {t : Sto} {p lf : Nat} {c k n : Int} {Q : D → Sto → Prop} {E : XP} (hq : q.Ok) (hb : q.b + (50 + 9 * cost d) < 5000000) (hp : Pool t p) (hl : Lf t lf c k n) (hn : -4 ≤ n)
    (h : ∀ (r : D) (q' : Sp0) (t' : Sto) (c' k' n' : Int), StepOk (d + 3) r → ((allS (d + 3) [r]).length : Int) = 1 + (n - n') → -4 ≤ n' → Made q q' t t' lf c' k' n' (50 + 9 * cost d) → Q r (stm q' t')) :
    wpR (l_test (N + 1) [.ref 1, .ref (p + 2), .ref (lf + 2), .int d] (stm q t)) Q E := by
  have hc := cost_pos d
  unfold l_test
  refine wp_fn (by simp) ?_
  walk_at "wp"
  rw [hl.ix1]
  walk_at "wp"
  rw [hl.set1]
  walk_at "wp"
  generalize ht1 : t.set lf (.lst [.int c, .int (k - 1), .int n]) = t1
  have hl1 : Lf t1 lf c (k - 1) n := by rw [← ht1]; exact hl.new
  have k1 : Kp lf t t1 := by rw [← ht1]; exact Kp.set
  have hp1 := hp.keep hl k1
  obtain ⟨a, b, e, ca, wa, fa, P⟩ := hp1
  have hal := P.al
  rw [P.cells]
  walk_at "wp"
  refine wp_pickS hq (by omega) P.a (by omega) (by omega) fun z q2 hz a2 => ?_
  have e2 := a2.hi
  walk_at "wp"
  refine wp_number a2.ok (by omega) fun v q3 hv a3 => ?_
  have e3 := a3.hi
  walk_at "wp"
  refine S a3.ok (by omega) (hp.keep hl k1) hl1 hn fun rs q4 t4 c4 k4 n4 hrs hrc hn4 M4 => ?_
  have e4 := M4.adv.hi
  walk_at "wp"
  refine S M4.adv.ok (by omega) (hp.keep hl (k1.trans M4.kp)) M4.lf hn4 fun us q5 t5 c5 k5 n5 hus huc hn5 M5 => ?_
  have e5 := M5.adv.hi
  walk_at "wp"
  refine wp_draw M5.adv.ok (by omega) (by decide) (by decide) fun j q6 h6 a6 => ?_
  have e6 := a6.hi
  have kp5 := (k1.trans M4.kp).trans M5.kp
  have ad6 : Adv q q6 (1 + 3 + (1 + 3 * cost d) + (1 + 3 * cost d) + 1) := ((((a2.trans a3 (Int.le_refl _)).trans M4.adv (Int.le_refl _)).trans M5.adv (Int.le_refl _)).trans a6 (by omega))
  walk_at "wp"
  refine wpB_dec (fun hj => ?_) (fun hj => ?_)
  · walk_at "wp"
    refine wpI_intro (le_line (by simp)) ?_
    refine h _ q6 t5 c5 k5 n5 (mkStep sh_less cs_cnll (.cons (.c (P.ao z hz)) (.cons (.n hv) (.cons (.l hrs) (.cons (.l hus) .nil))))) ?_ hn5 ⟨kp5, M5.lf, ad6.mono (by omega)⟩
    rw [allS_one, inner_mk sh_less cs_cnll]
    simp only [lstsOf]
    simp
    omega
  · walk_at "wp"
    obtain ⟨a', b', e', ca', wa', fa', P'⟩ := hp.keep hl kp5
    have hal' := P'.al
    rw [P'.cells]
    walk_at "wp"
    refine wp_pickS a6.ok (by omega) P'.a (by omega) (by omega) fun y q7 hy a7 => ?_
    walk_at "wp"
    refine wpI_intro (le_line (by simp)) ?_
    refine h _ q7 t5 c5 k5 n5 (mkStep sh_below cs_ccnll (.cons (.c (P.ao z hz)) (.cons (.c (P'.ao y hy)) (.cons (.n hv) (.cons (.l hrs) (.cons (.l hus) .nil)))))) ?_ hn5 ⟨kp5, M5.lf, ad6.trans a7 (by omega)⟩
    rw [allS_one, inner_mk sh_below cs_ccnll]
    simp only [lstsOf]
    simp
    omega
theorem choice_of {d N : Nat} (S : StepsSpec d N) {q : Sp0} {t : Sto} {p lf : Nat} {c k n : Int} {Q : D → Sto → Prop} {E : XP} (hq : q.Ok) (hb : q.b + (50 + 9 * cost d) < 5000000) (hp : Pool t p) (hl : Lf t lf c k n) (hn : -4 ≤ n)
    (h : ∀ (r : D) (q' : Sp0) (t' : Sto) (c' k' n' : Int), StepOk (d + 3) r → ((allS (d + 3) [r]).length : Int) = 1 + (n - n') → -4 ≤ n' → Made q q' t t' lf c' k' n' (50 + 9 * cost d) → Q r (stm q' t')) :
    wpR (l_choice (N + 1) [.ref 1, .ref (p + 2), .ref (lf + 2), .int d] (stm q t)) Q E := by
  have hc := cost_pos d
  unfold l_choice
  refine wp_fn (by simp) ?_
  walk_at "wp"
  rw [hl.ix0]
  walk_at "wp"
  rw [hl.set0]
  walk_at "wp"
  generalize ht1 : t.set lf (.lst [.int (c - 1), .int k, .int n]) = t1
  have hl1 : Lf t1 lf (c - 1) k n := by rw [← ht1]; exact hl.new
  have k1 : Kp lf t t1 := by rw [← ht1]; exact Kp.set
  refine wp_held hq (by omega) (hp.keep hl k1) fun zs q2 z1 z2 z3 a2 => ?_
  have e2 := a2.hi
  have k2 : Kp lf t (t1 ++ [.lst []]) := k1.trans Kp.app
  walk_at "wp"
  refine wp_draw a2.ok (by omega) (by decide) (by decide) fun j q3 h3 a3 => ?_
  have e3 := a3.hi
  walk_at "wp"
  refine S a3.ok (by omega) (hp.keep hl k2) hl1.app hn fun rs q4 t4 c4 k4 n4 hrs hrc hn4 M4 => ?_
  have e4 := M4.adv.hi
  walk_at "wp"
  refine S M4.adv.ok (by omega) (hp.keep hl (k2.trans M4.kp)) M4.lf hn4 fun us q5 t5 c5 k5 n5 hus huc hn5 M5 => ?_
  have e5 := M5.adv.hi
  have kp5 := (k2.trans M4.kp).trans M5.kp
  have ad5 : Adv q q5 (12 + 1 + (1 + 3 * cost d) + (1 + 3 * cost d)) := (((a2.trans a3 (Int.le_refl _)).trans M4.adv (Int.le_refl _)).trans M5.adv (by omega))
  walk_at "wp"
  refine wpB_dec (fun hj => ?_) (fun hj => ?_)
  · walk_at "wp"
    refine wpI_intro (le_line (by simp)) ?_
    refine h _ q5 t5 c5 k5 n5 (mkStep sh_either cs_hll (.cons (.h z1 z2 z3) (.cons (.l hrs) (.cons (.l hus) .nil)))) ?_ hn5 ⟨kp5, M5.lf, ad5.mono (by omega)⟩
    rw [allS_one, inner_mk sh_either cs_hll]
    simp only [lstsOf]
    simp
    omega
  walk_at "wp"
  refine wpB_dec (fun hj2 => ?_) (fun hj2 => ?_)
  · walk_at "wp"
    refine wpI_intro (le_line (by simp)) ?_
    refine h _ q5 t5 c5 k5 n5 (mkStep sh_each cs_hll (.cons (.h z1 z2 z3) (.cons (.l hrs) (.cons (.l hus) .nil)))) ?_ hn5 ⟨kp5, M5.lf, ad5.mono (by omega)⟩
    rw [allS_one, inner_mk sh_each cs_hll]
    simp only [lstsOf]
    simp
    omega
  · walk_at "wp"
    refine S M5.adv.ok (by omega) (hp.keep hl kp5) M5.lf hn5 fun vs q6 t6 c6 k6 n6 hvs hvc hn6 M6 => ?_
    walk_at "wp"
    refine wpI_intro (le_line (by simp)) ?_
    refine h _ q6 t6 c6 k6 n6 (mkStep sh_whether cs_hlll (.cons (.h z1 z2 z3) (.cons (.l hrs) (.cons (.l hus) (.cons (.l hvs) .nil))))) ?_ hn6 ⟨kp5.trans M6.kp, M6.lf, ad5.trans M6.adv (by omega)⟩
    rw [allS_one, inner_mk sh_whether cs_hlll]
    simp only [lstsOf]
    simp
    omega
theorem step_zero {N : Nat} : StepSpec 0 (N + 1) := by
  intro q t p lf c k n Q E hq hb hp hl hn h
  have h0 : cost 0 = 6 := rfl
  rw [h0] at hb h
  unfold l_step
  refine wp_fn (by simp) ?_
  walk_at "wp"
  rw [hl.ix2]
  walk_at "wp"
  rw [hl.set2]
  walk_at "wp"
  generalize ht1 : t.set lf (.lst [.int c, .int k, .int (n - 1)]) = t1
  have hl1 : Lf t1 lf c k (n - 1) := by rw [← ht1]; exact hl.new
  have k1 : Kp lf t t1 := by rw [← ht1]; exact Kp.set
  have dn : ∀ {i j : Int}, ¬ i < j → decide (i < j) = false := fun h => decide_eq_false h
  have dl : ∀ {i j : Int}, ¬ i ≤ j → decide (i ≤ j) = false := fun h => decide_eq_false h
  rw [dn (by simp)]
  walk_at "wp"
  rw [dl (by decide)]
  walk_at "wp"
  rw [dl (by decide)]
  walk_at "wp"
  rw [dl (by decide)]
  walk_at "wp"
  rw [dn (by decide)]
  walk_at "wp"
  refine wp_plain hq (by omega) (hp.keep hl k1) fun r q2 hr a2 => ?_
  exact h r q2 t1 c k (n - 1) (hr.at_ 1) (by rw [hr.all 1]; simp; omega) (by omega) ⟨k1, hl1, a2⟩
theorem step_of {d N : Nat} (S : StepsSpec d (N + 1)) (S' : StepsSpec d N) : StepSpec (d + 1) (N + 2) := by
  intro q t p lf c k n Q E hq hb hp hl hn h
  have hc := cost_pos d
  have h0 : cost (d + 1) = 60 + 9 * cost d := rfl
  rw [h0] at hb h
  unfold l_step
  refine wp_fn (by simp) ?_
  walk_at "wp"
  rw [hl.ix2]
  walk_at "wp"
  rw [hl.set2]
  walk_at "wp"
  generalize ht1 : t.set lf (.lst [.int c, .int k, .int (n - 1)]) = t1
  have hl1 : Lf t1 lf c k (n - 1) := by rw [← ht1]; exact hl.new
  have k1 : Kp lf t t1 := by rw [← ht1]; exact Kp.set
  have hp1 := hp.keep hl k1
  have dd : ((d + 1 : Nat) : Int) - 1 = (d : Int) := by omega
  refine wpB_pos (decide_eq_true (by omega)) ?_
  walk_at "wp"
  refine wp_draw hq (by omega) (by decide) (by decide) fun i q2 h2 a2 => ?_
  have e2 := a2.hi
  walk_at "wp"
  have done : ∀ (r : D) (q' : Sp0) (t' : Sto) (c' k' n' : Int), StepOk (d + 3) r → ((allS (d + 3) [r]).length : Int) = 1 + (n - 1 - n') → -4 ≤ n' → Made q2 q' t1 t' lf c' k' n' (50 + 9 * cost d) → Q r (stm q' t') := fun r q' t' c' k' n' g1 g2 g3 M =>
    h r q' t' c' k' n' g1 (by show ((allS (d + 3) [r]).length : Int) = n - n'; omega) g3 ⟨k1.trans M.kp, M.lf, a2.trans M.adv (by omega)⟩
  have last : ∀ {E : XP}, wpR (l_plain [.ref 1, .ref (p + 2)] (stm q2 t1)) Q E := by
    intro E
    refine wp_plain a2.ok (by omega) hp1 fun r q3 hr a3 => ?_
    exact done r q3 t1 c k (n - 1) (hr.at_ (d + 2)) (by rw [hr.all (d + 2)]; simp) (by omega) ⟨Kp.refl, hl1, a3.mono (by omega)⟩
  have tests : ∀ {E : XP}, wpR (l_test (N + 1) [.ref 1, .ref (p + 2), .ref (lf + 2), .int d] (stm q2 t1)) Q E := fun {E} => test_of S' a2.ok (by omega) hp1 hl1 (by omega) done
  have choices : ∀ {E : XP}, wpR (l_choice (N + 1) [.ref 1, .ref (p + 2), .ref (lf + 2), .int d] (stm q2 t1)) Q E := fun {E} => choice_of S' a2.ok (by omega) hp1 hl1 (by omega) done
  have T : ∀ {p : Prop} [Decidable p], p → decide p = true := fun h => decide_eq_true h
  have F : ∀ {p : Prop} [Decidable p], ¬ p → decide p = false := fun h => decide_eq_false h
  by_cases c5 : (5 : Int) ≤ i
  · rw [T c5]
    walk_at "wp"
    by_cases c8 : (i : Int) < 8
    · rw [T c8]
      walk_at "wp"
      rw [hl1.ix1]
      walk_at "wp"
      refine wpB_dec (fun hk => ?_) (fun hk => ?_)
      · walk_at "wp"
        rw [dd]
        exact tests
      · walk_at "wp"
        rw [F (show ¬ (8 : Int) ≤ i by omega)]
        walk_at "wp"
        rw [F (show ¬ (12 : Int) ≤ i by omega)]
        walk_at "wp"
        rw [F (show ¬ (14 : Int) < i by omega)]
        walk_at "wp"
        exact last
    · rw [F c8]
      walk_at "wp"
      rw [T (show (8 : Int) ≤ i by omega)]
      walk_at "wp"
      by_cases c12 : (i : Int) < 12
      · rw [T c12]
        walk_at "wp"
        rw [hl1.ix0]
        walk_at "wp"
        refine wpB_dec (fun hk => ?_) (fun hk => ?_)
        · walk_at "wp"
          rw [dd]
          exact choices
        · walk_at "wp"
          rw [F (show ¬ (12 : Int) ≤ i by omega)]
          walk_at "wp"
          rw [F (show ¬ (14 : Int) < i by omega)]
          walk_at "wp"
          exact last
      · rw [F c12]
        walk_at "wp"
        rw [T (show (12 : Int) ≤ i by omega)]
        walk_at "wp"
        by_cases c15 : (i : Int) < 15
        · rw [T c15]
          walk_at "wp"
          refine wp_held a2.ok (by omega) hp1 fun zs q3 z1 z2 z3 a3 => ?_
          have e3 := a3.hi
          have k2 : Kp lf t (t1 ++ [.lst []]) := k1.trans Kp.app
          walk_at "wp"
          obtain ⟨a, b, e, ca, wa, fa, P⟩ := hp.keep hl k2
          have hcl := P.cl
          rw [P.faults]
          walk_at "wp"
          refine wp_pickS a3.ok (by omega) P.c (by omega) (by omega) fun z q4 hz a4 => ?_
          have e4 := a4.hi
          walk_at "wp"
          rw [dd]
          refine S a4.ok (by omega) (hp.keep hl k2) hl1.app (by omega) fun rs q5 t5 c5 k5 n5 hrs hrc hn5 M5 => ?_
          have e5 := M5.adv.hi
          walk_at "wp"
          rw [dd]
          refine S M5.adv.ok (by omega) (hp.keep hl (k2.trans M5.kp)) M5.lf hn5 fun us q6 t6 c6 k6 n6 hus huc hn6 M6 => ?_
          have ad6 : Adv q2 q6 (12 + 1 + (1 + 3 * cost d) + (1 + 3 * cost d)) := (((a3.trans a4 (Int.le_refl _)).trans M5.adv (Int.le_refl _)).trans M6.adv (by omega))
          have k6 : Kp lf t1 t6 := ((Kp.app.trans M5.kp).trans M6.kp)
          walk_at "wp"
          refine wpB_dec (fun hj => ?_) (fun hj => ?_)
          · walk_at "wp"
            refine wpI_intro (le_line (by simp)) ?_
            refine done _ q6 t6 c6 _ n6 (mkStep sh_last cs_ll (.cons (.l hrs) (.cons (.l hus) .nil))) ?_ hn6 ⟨k6, M6.lf, ad6.mono (by omega)⟩
            rw [allS_one, inner_mk sh_last cs_ll]
            simp only [lstsOf]
            simp
            omega
          · walk_at "wp"
            refine wpI_intro (le_line (by simp)) ?_
            refine done _ q6 t6 c6 _ n6 (mkStep sh_catch cs_fhll (.cons (.f (P.co z hz).1 (P.co z hz).2) (.cons (.h z1 z2 z3) (.cons (.l hrs) (.cons (.l hus) .nil))))) ?_ hn6 ⟨k6, M6.lf, ad6.mono (by omega)⟩
            rw [allS_one, inner_mk sh_catch cs_fhll]
            simp only [lstsOf]
            simp
            omega
        · rw [F c15]
          walk_at "wp"
          rw [T (show (14 : Int) < i by omega)]
          walk_at "wp"
          refine wp_times (m := d) a2.ok (by omega) hp1 hl1 fun r q3 t3 c3 n3 g1 g2 g3 M => ?_
          exact done r q3 t3 c3 k n3 g1 g2 (by omega) ⟨M.kp, M.lf, M.adv.mono (by omega)⟩
  · rw [F c5]
    walk_at "wp"
    rw [F (show ¬ (8 : Int) ≤ i by omega)]
    walk_at "wp"
    rw [F (show ¬ (12 : Int) ≤ i by omega)]
    walk_at "wp"
    rw [F (show ¬ (14 : Int) < i by omega)]
    walk_at "wp"
    exact last
/-- steps of any depth, with fuel -/
theorem steps_spec : ∀ d N : Nat, 3 * d + 1 ≤ N → StepSpec d N ∧ StepsSpec d (N + 1)
  | 0, N, h => by
    obtain ⟨M, rfl⟩ : ∃ M, N = M + 1 := ⟨N - 1, by omega⟩
    exact ⟨step_zero, steps_of step_zero⟩
  | d + 1, N, h => by
    obtain ⟨M, rfl⟩ : ∃ M, N = M + 3 := ⟨N - 3, by omega⟩
    have s1 : StepsSpec d (M + 1) := (steps_spec d M (by omega)).2
    have s2 : StepsSpec d (M + 2) := (steps_spec d (M + 1) (by omega)).2
    have s3 : StepSpec (d + 1) (M + 3) := step_of (N := M + 1) s2 s1
    exact ⟨s3, steps_of s3⟩
theorem cost3 : cost 3 = 9834 := by decide
/-- a part -/
theorem wp_part {q : Sp0} {t : Sto} {p : Nat} {c k : Int} {Q : D → Sto → Prop} {E : XP} (hq : q.Ok) (hb : q.b < 4000000) (hp : Pool t p)
    (h : ∀ (rs : List D) (q' : Sp0) (t' : Sto), (∀ r ∈ rs, StepOk 5 r) → (allS 5 rs).length ≤ 18 → rs.length ≤ 4 → (∀ i, i < t.length → t'[i]? = t[i]?) → t.length ≤ t'.length → Adv q q' 40000 → Q (.tup rs) (stm q' t')) :
    wpR (l_part [.ref 1, .ref (p + 2), .int c, .int k] (stm q t)) Q E := by
  have S : StepSpec 3 20 := (steps_spec 3 20 (by decide)).1
  unfold l_part
  refine wp_fn (by simp) ?_
  walk_at "wp"
  refine wpI_intro (le_line (by simp)) ?_
  walk_at "wp"
  refine wpI_intro (le_line (by simp)) ?_
  walk_at "wp"
  have hl0 : Lf (t ++ [.lst [.int c, .int k, .int 14]]) t.length c k 14 := last_get
  have elen : (t ++ [Ob.lst [.int c, .int k, .int 14]]).length = t.length + 1 := by simp
  rw [elen]
  refine wp_whileB (fun m ρ s => ∃ (q2 : Sp0) (t2 : Sto) (c2 k2 n2 : Int) (rs : List D), ρ = [some (.ref 1), some (.ref (p + 2)), some (.int c), some (.int k), some (.ref (t.length + 2)), some (.ref (t.length + 1 + 2))] ∧ s = stm q2 t2 ∧
    Kp t.length (t ++ [.lst [.int c, .int k, .int 14]]) t2 ∧ Lf t2 t.length c2 k2 n2 ∧ t2[t.length + 1]? = some (.lst rs) ∧ (∀ r ∈ rs, StepOk 5 r) ∧ ((allS 5 rs).length : Int) = 14 - n2 ∧ -4 ≤ n2 ∧ q2.Ok ∧ q.b ≤ q2.b ∧ q2.b + m * 9834 ≤ q.b + 4 * 9834 ∧ rs.length + m = 4) ?_ (n := 4)
    ⟨q, (t ++ [.lst [.int c, .int k, .int 14]]) ++ [.lst []], c, k, 14, [], rfl, rfl, Kp.app, hl0.app, by simp, by simp, by simp [allS], by decide, hq, Int.le_refl _, by omega, rfl⟩ (by decide)
  rintro m ρ s ⟨q2, t2, c2, k2, n2, rs, rfl, rfl, kp, hl2, hg, hrs, hcnt, hn2, hq2, hlo, hhi, hlen⟩
  walk_at "wp"
  rw [gLen_stm hg]
  walk_at "wp"
  have fin : wpS (mRet (mCallB (pu gTuple) (mCons (mVar 5) mNil)) [some (.ref 1), some (.ref (p + 2)), some (.int c), some (.int k), some (.ref (t.length + 2)), some (.ref (t.length + 1 + 2))] (stm q2 t2)) (fun _ s => Q .non s) Q (fun _ _ => False) (fun _ _ => False) (fun x _ s => E x s) := by
    walk_at "wp"
    have e5 : gTuple (stm q2 t2) [.ref (t.length + 1 + 2)] = some (.tup rs) := by
      unfold gTuple
      dsimp only
      rw [items_stm hg]
      rfl
    rw [e5]
    walk_at "wp"
    refine h rs q2 t2 hrs (by omega) (by omega) (fun i hi => ?_) (Nat.le_trans (by simp) kp.len) ⟨hq2, hlo, by omega⟩
    rw [kp.at_ i (by simp; omega) (by omega), List.getElem?_append_left hi]
  refine wpB_dec (fun h4 => ?_) (fun h4 => ?_)
  · walk_at "wp"
    rw [hl2.ix2]
    walk_at "wp"
    refine wpB_dec (fun hn => ?_) (fun hn => ?_)
    · refine ⟨m - 1, by omega, ?_⟩
      walk_at "wp"
      rw [tyL_stm hg]
      walk_at "wp"
      have hp2 : Pool t2 p := (show Pool (t ++ [.lst [.int c, .int k, .int 14]]) p from by
        obtain ⟨a, b, e, ca, wa, fa, P⟩ := hp
        have g : ∀ {i : Nat} {o : Ob}, t[i]? = some o → (t ++ [Ob.lst [.int c, .int k, .int 14]])[i]? = some o := fun {i o} h => by
          rw [List.getElem?_append_left (List.getElem?_eq_some_iff.mp h).1]; exact h
        exact ⟨a, b, e, ca, wa, fa, ⟨g P.d, g P.a, g P.b, g P.c, P.an, P.al, P.bl, P.cl, P.ao, P.bo, P.co⟩⟩).keep hl0 kp
      have h3 : (3 : Int) = ((3 : Nat) : Int) := rfl
      rw [h3]
      refine S hq2 (by rw [cost3]; omega) hp2 hl2 (by omega) fun r q3 t3 c3 k3 n3 hr hrc hn3 M => ?_
      have e3 := M.adv.hi
      have e3' := M.adv.lo
      rw [cost3] at e3
      have hg3 : t3[t.length + 1]? = some (.lst rs) := M.kp.get hg (by omega)
      have hlt3 := (List.getElem?_eq_some_iff.mp hg3).1
      walk_at "wp"
      rw [app_stm hg3 (by omega)]
      walk_at "wp"
      refine ⟨q3, t3.set (t.length + 1) (.lst (rs ++ [r])), c3, k3, n3, rs ++ [r], by first | rfl | trivial, rfl, ⟨by simp; omega, fun i hi1 hi2 => ?_⟩, ?_, by rw [List.getElem?_set_self hlt3], ?_, ?_, hn3, M.adv.ok, by omega, by omega, by simp; omega⟩
      · simp at hi1
        rw [List.getElem?_set_ne (by omega)]
        exact (kp.trans M.kp).at_ i (by simp; omega) hi2
      · unfold Lf
        rw [List.getElem?_set_ne (by omega)]
        exact M.lf
      · intro x hx
        rcases List.mem_append.mp hx with h | h
        · exact hrs x h
        · have : x = r := by simpa using h
          rw [this]; exact hr
      · have e5 : ((allS 5 [r]).length : Int) = n2 - n3 := hrc
        rw [allS_app, List.length_append]
        omega
    · exact fin
  · rw [wpB_false]
    exact fin
end MP

set_option Elab.async false
set_option linter.all false
set_option maxRecDepth 100000
set_option maxHeartbeats 8000000
/-! PG6: the pool of names -/
namespace MP
open PySem L2
local macro_rules | `(tactic| walk_at "wp") => `(tactic| try simp only [↓wp_mSeq, ↓wp_mNext, ↓wp_mBrk, ↓wp_mCnt, ↓wp_mExpr, ↓wp_mRet, ↓wp_mRetN, ↓wp_mIf, ↓wp_mSet, ↓wp_mPar, ↓wp_mPar3, ↓wp_mAsg, ↓wp_mFor, ↓wp_mDPut, ↓wp_mFldSet, ↓wp_mVar, ↓wp_mC, ↓wp_mOp, ↓wp_mUn, ↓wp_mNil, ↓wp_mCons, ↓wp_mStar, ↓wp_mTup, ↓wp_mLst, ↓wp_mLstB, ↓wp_mIfE, ↓wp_mTst, ↓wp_mNot, ↓wp_mAnd, ↓wp_mOr, ↓wp_mAndV, ↓wp_mOrV, ↓wp_mNotV, ↓wp_mChain, ↓wp_mCall, ↓wp_mCallB, ↓wpO_pu, ↓wp_mBm, ↓wp_mBm0, ↓wp_moN, ↓wp_moS, ↓wp_mSl, ↓wp_mIsi, ↓wp_mTab, ↓wp_mTabIn, ↓wp_mTabNotIn, ↓wp_mDGet, ↓wp_mDGet2, ↓wp_mDNew, ↓wp_mSortSet, ↓wp_mSortSetB, ↓wp_mLenSet, ↓wp_mFrz, ↓wp_mFld, ↓wp_mMeth, ↓wp_mMake, ↓wp_mLenO, ↓wp_mEqO, ↓wp_mNeO, ↓wp_mLc, ↓wp_mLcB, ↓wp_miSeq, ↓wp_miRng, ↓wp_miZip, ↓wp_miEnum, ↓wp_gmName, ↓wp_gmNil, ↓wp_gmCons, ↓wp_gmTup, ↓wp_gmSub, ↓wp_mYes, ↓wpR_ok, wpO_some, wpB_true, wpB_false, wpB_not, wpI_true, asB_bl, asI_int, asT_tup, asS_str, two_two, three_three, isNon_non, cI_int, pad, wipeE, List.getElem?_cons_zero, List.getElem?_cons_succ, List.set_cons_zero, List.set_cons_succ, fAdd_int, fSub_int, fLt_int, fLe_int, fGt_int, fGe_int, fEq_int, fNe_int, fNeg_int, stm_ix0, stm_ix1, stm_ix2, stm_ix3, stm_set1, stm_set2, stm_set3, stm_ne, stm_tyL0, gInt_int, tyS_str, stm_len, stm_app])
section
variable {N : Env → Sto → Prop} {Rt : D → Sto → Prop} {B C : Env → Sto → Prop} {E : Xc → Env → Sto → Prop} {g : MG} {body : MS} {d : D} {ds : List D} {ρ : Env} {s : Sto}
theorem wp_forC (h : wpR (g d ρ s) (fun ρ1 s1 => wpS (body ρ1 s1) (fun ρ2 s2 => wpS (forL any_ g body ds ρ2 s2) N Rt B C E) Rt N (fun ρ2 s2 => wpS (forL any_ g body ds ρ2 s2) N Rt B C E) E) (fun e s => E e ρ s)) : wpS (forL any_ g body (d :: ds) ρ s) N Rt B C E := by
  unfold forL
  rw [still_any, wpS_bnd]
  refine wpR_mono h (fun ρ1 s1 h3 => ?_) fun _ _ z => z
  obtain ⟨h3⟩ := h3
  cases hb : body ρ1 s1 with
  | none => rw [hb] at h3; exact h3.elim
  | some f =>
    rw [hb] at h3
    cases f with
    | nx ρ2 s2 => exact h3
    | ct ρ2 s2 => exact h3
    | bk ρ2 s2 => exact ⟨h3⟩
    | rt d s2 => exact ⟨h3⟩
    | ex e ρ2 s2 => exact ⟨h3⟩
theorem wp_forN (h : N ρ s) : wpS (forL any_ g body [] ρ s) N Rt B C E := by
  unfold forL
  rw [still_any, wpS_nx]
  exact h
theorem wpS_store {q : Sp0} {t t' : Sto} {m : MS} (e : t = t') (h : wpS (m ρ (stm q t')) N Rt B C E) : wpS (m ρ (stm q t)) N Rt B C E := by rw [e]; exact h
end
def oddD : List D := [.str "answer", .str "none", .str "then", .str "else", .str "either", .str "hole", .str "say", .str "each", .str "back", .str "word"]
theorem nameOk_dec {z : Str} (h : decide (1 ≤ z.cps.size ∧ z.cps.size ≤ 8 ∧ ∀ c ∈ z.cps.toList, 97 ≤ c ∧ c ≤ 122) = true) : NameOk z := by
  obtain ⟨h1, h2, h3⟩ := of_decide_eq_true h
  exact ⟨h1, h2, h3⟩
theorem odd_at {i : Nat} (h : i < 10) : ∃ z : Str, atI oddD (i : Int) = some (.str z) ∧ NameOk z ∧ (i < 8 → z ≠ "back") := by
  rcases i with _|_|_|_|_|_|_|_|_|_|i
  · exact ⟨"answer", rfl, nameOk_dec (by decide), fun _ => by decide⟩
  · exact ⟨"none", rfl, nameOk_dec (by decide), fun _ => by decide⟩
  · exact ⟨"then", rfl, nameOk_dec (by decide), fun _ => by decide⟩
  · exact ⟨"else", rfl, nameOk_dec (by decide), fun _ => by decide⟩
  · exact ⟨"either", rfl, nameOk_dec (by decide), fun _ => by decide⟩
  · exact ⟨"hole", rfl, nameOk_dec (by decide), fun _ => by decide⟩
  · exact ⟨"say", rfl, nameOk_dec (by decide), fun _ => by decide⟩
  · exact ⟨"each", rfl, nameOk_dec (by decide), fun _ => by decide⟩
  · exact ⟨"back", rfl, nameOk_dec (by decide), fun h => absurd h (by decide)⟩
  · exact ⟨"word", rfl, nameOk_dec (by decide), fun h => absurd h (by decide)⟩
  · omega
theorem back_size : (Str.ofString "back").cps.size = 4 := by decide
theorem dput_stm {q : Sp0} {t : Sto} {g : Nat} {L : List (Key × D)} {z : Str} {d : D} (h : t[g]? = some (.dct L)) (hl : L.length ≤ 1000) : dput? (stm q t) (.ref (g + 2)) (.str z) d = some (stm q (t.set g (.dct (putD L (.inr z) d)))) := by
  unfold dput?
  dsimp only
  rw [key_str, Option.bind_some, stm_get, h]
  dsimp only
  rw [if_pos (by omega), stm_upd]
theorem dg_stm {q : Sp0} {t : Sto} {g : Nat} {L : List (Key × D)} {z : Str} (h : t[g]? = some (.dct L)) : dg? (stm q t) (.ref (g + 2)) (.str z) = getK L (.inr z) := by
  unfold dg? dct?
  dsimp only
  rw [stm_get, h, key_str]
  rfl
theorem getK_new {L : List (Key × D)} {k : Key} {d : D} (h : ∀ e ∈ L, e.1 ≠ k) : getK (L ++ [(k, d)]) k = some d := by
  unfold getK
  rw [List.find?_append]
  have : L.find? (fun kv => decide (kv.1 = k)) = none := List.find?_eq_none.mpr fun e he => by simpa using h e he
  rw [this]
  simp
theorem putD_new {L : List (Key × D)} {k : Key} {d : D} (h : ∀ e ∈ L, e.1 ≠ k) : putD L k d = L ++ [(k, d)] := by
  unfold putD
  rw [if_neg]
  intro ha
  obtain ⟨e, he, h2⟩ := List.any_eq_true.mp ha
  exact h e he (of_decide_eq_true h2)
/-- one list of names of the pool -/
structure NamesOk (isF : Bool) (m : Nat) (zs : List Str) : Prop where
  nd : zs.Nodup
  len : zs.length = if isF then m * 2 / 3 else m
  ok : ∀ z ∈ zs, NameOk z ∧ (isF = true → z ≠ "back")
theorem pool_turn {q : Sp0} {t : Sto} {g m : Nat} {L : List (Key × D)} {z : Str} {isF : Bool} {o5 : Option D} {N : Env → Sto → Prop} {Rt : D → Sto → Prop} {B C : Env → Sto → Prop} {E : Xc → Env → Sto → Prop} (hq : q.Ok) (hb : q.b < 4000000) (hm : m = 3 ∨ m = 6) (hz : PyData.strOk z = true) (hF : decide (z = Str.ofString "faults") = isF) (hg : t[g]? = some (.dct L)) (hL : L.length ≤ 10) (hk : ∀ e ∈ L, e.1 ≠ .inr z)
    (h : ∀ (zs : List Str) (q' : Sp0) (o : Option D), NamesOk isF m zs → Adv q q' 70 → N [some (.ref 1), some (.lst oddD), some (.str z), some (.int m), some (.ref (g + 2)), o] (stm q' ((t.set g (.dct (L ++ [(.inr z, .ref (t.length + 2))]))) ++ [.lst (zs.map .str)]))) :
    wpS (mSeq (mDPut (mCall l_names (mCons (mVar 0) (mCons (mIfE (mTst (mOp fEq (mVar 2) (mC (.str "faults")))) (mOp fDiv (mOp fMul (mVar 3) (mC (.int 2))) (mC (.int 3))) (mVar 3)) (mNil)))) (mVar 4) (mVar 2))
      (mSeq (mSet 5 (mOp fIx (mVar 1) (mCall l_draw (mCons (mVar 0) (mCons (mIfE (mTst (mOp fEq (mVar 2) (mC (.str "faults")))) (mC (.int 8)) (mC (.int 10))) (mNil))))))
      (mIf (mAnd (mTst (mOp fEq (mCall l_draw (mCons (mVar 0) (mCons (mC (.int 3)) (mNil)))) (mC (.int 0)))) (mTst (mOp fNotIn (mVar 5) (mDGet (mVar 4) (mVar 2))))) (mAsg (mVar 5) (gmSub (mDGet (mVar 4) (mVar 2)) (mC (.int 0)))) (mNext)))
      [some (.ref 1), some (.lst oddD), some (.str z), some (.int m), some (.ref (g + 2)), o5] (stm q t)) N Rt B C E := by
  have hfs : PyData.strOk (Str.ofString "faults") = true := (nameOk_dec (z := "faults") (by decide)).str
  have hgl : g < t.length := (List.getElem?_eq_some_iff.mp hg).1
  walk_at "wp"
  rw [fEq_str hz hfs, hF]
  walk_at "wp"
  have hcount : ∀ {Q : D → Sto → Prop} {E : XP}, (∀ c : Nat, (c = if isF then m * 2 / 3 else m) → Q (.int c) (stm q t)) → wpB isF (wpR (mOp fDiv (mOp fMul (mVar 3) (mC (.int 2))) (mC (.int 3)) [some (.ref 1), some (.lst oddD), some (.str z), some (.int m), some (.ref (g + 2)), o5] (stm q t)) Q E) (wpR (mVar 3 [some (.ref 1), some (.lst oddD), some (.str z), some (.int m), some (.ref (g + 2)), o5] (stm q t)) Q E) := fun {Q E} hQ => by
    refine wpB_intro (fun e => ?_) (fun e => ?_)
    · walk_at "wp"
      rw [fMul_int (cMul_r (by decide) (by decide))]
      walk_at "wp"
      rw [fDiv_int (by decide) (by decide)]
      walk_at "wp"
      have : (m : Int) * 2 / 3 = ((m * 2 / 3 : Nat) : Int) := by omega
      rw [this]
      exact hQ _ (by rw [e]; rfl)
    · walk_at "wp"
      exact hQ _ (by rw [e]; rfl)
  refine hcount fun c hc => ?_
  have hc7 : c ≤ 7 := by rw [hc]; cases isF <;> simp <;> omega
  have hc1 : 1 ≤ c := by rw [hc]; cases isF <;> simp <;> omega
  walk_at "wp"
  refine wp_names hq (by omega) hc7 fun zs q1 hnd hlen hzs a1 => ?_
  have e1 := a1.hi
  walk_at "wp"
  have hg1 : (t ++ [Ob.lst (zs.map .str)])[g]? = some (.dct L) := by rw [List.getElem?_append_left hgl]; exact hg
  rw [dput_stm hg1 (by omega), putD_new hk]
  walk_at "wp"
  have est : (t ++ [Ob.lst (zs.map .str)]).set g (.dct (L ++ [(.inr z, .ref (t.length + 2))])) = (t.set g (.dct (L ++ [(.inr z, .ref (t.length + 2))]))) ++ [.lst (zs.map .str)] := by rw [List.set_append_left _ _ hgl]
  rw [est]
  generalize ht1 : t.set g (.dct (L ++ [(.inr z, .ref (t.length + 2))])) = t1
  have hl1 : t1.length = t.length := by rw [← ht1]; simp
  have hd1 : (t1 ++ [Ob.lst (zs.map .str)])[g]? = some (.dct (L ++ [(.inr z, .ref (t.length + 2))])) := by
    rw [List.getElem?_append_left (by omega), ← ht1, List.getElem?_set_self hgl]
  have hb1 : (t1 ++ [Ob.lst (zs.map .str)])[t.length]? = some (.lst (zs.map .str)) := by rw [← hl1]; exact last_get
  rw [fEq_str hz hfs, hF]
  walk_at "wp"
  have hten : ∀ {Q : D → Sto → Prop} {E : XP}, (∀ c : Int, (c = if isF then 8 else 10) → Q (.int c) (stm q1 (t1 ++ [Ob.lst (zs.map .str)]))) → wpB isF (wpR (mC (.int 8) [some (.ref 1), some (.lst oddD), some (.str z), some (.int m), some (.ref (g + 2)), o5] (stm q1 (t1 ++ [Ob.lst (zs.map .str)]))) Q E) (wpR (mC (.int 10) [some (.ref 1), some (.lst oddD), some (.str z), some (.int m), some (.ref (g + 2)), o5] (stm q1 (t1 ++ [Ob.lst (zs.map .str)]))) Q E) := fun {Q E} hQ => by
    refine wpB_intro (fun e => ?_) (fun e => ?_)
    · walk_at "wp"
      exact hQ _ (by rw [e]; rfl)
    · walk_at "wp"
      exact hQ _ (by rw [e]; rfl)
  refine hten fun u hu => ?_
  have hu10 : u ≤ 10 := by rw [hu]; cases isF <;> simp
  have hu1 : 0 < u := by rw [hu]; cases isF <;> simp
  walk_at "wp"
  refine wp_draw a1.ok (by omega) hu1 (by omega) fun i q2 h2 a2 => ?_
  have e2 := a2.hi
  obtain ⟨y, ey, hy, hyb⟩ := odd_at (i := i) (by omega)
  rw [fIx_lst, ey]
  walk_at "wp"
  refine wp_draw a2.ok (by omega) (by decide) (by decide) fun j q3 h3 a3 => ?_
  have ad3 : Adv q q3 70 := (a1.trans a2 (Int.le_refl _)).trans a3 (by decide)
  have hold : NamesOk isF m zs := ⟨hnd, by rw [hlen, hc], fun w hw => ⟨(hzs w hw).1, fun _ e => (hzs w hw).2 (by rw [e]; exact back_size)⟩⟩
  walk_at "wp"
  refine wpB_dec (fun hj => ?_) (fun hj => ?_)
  · walk_at "wp"
    have hgK : ∀ q, dg? (stm q (t1 ++ [Ob.lst (zs.map .str)])) (.ref (g + 2)) (.str z) = some (.ref (t.length + 2)) := fun q => by
      rw [dg_stm hd1]
      exact getK_new hk
    rw [hgK]
    walk_at "wp"
    rw [fNotIn_strs (items_stm hb1) (fun w => by intro h; cases h)]
    walk_at "wp"
    refine wpB_dec (fun hin => ?_) (fun hin => ?_)
    · walk_at "wp"
      rw [← ht1]
      exact h zs q3 _ hold ad3
    · walk_at "wp"
      rw [hgK]
      walk_at "wp"
      have hs := sub_stm (q := q3) (d := .str y) (i := 0) hb1 (by simp; omega)
      have h00 : ((0 : Nat) : Int) = 0 := rfl
      rw [h00] at hs
      rw [hs]
      walk_at "wp"
      have eset : (t1 ++ [Ob.lst (zs.map .str)]).set t.length (.lst ((zs.map .str).set 0 (.str y))) = t1 ++ [.lst ((zs.set 0 y).map .str)] := by
        rw [← hl1, last_set, List.map_set]
      rw [eset, ← ht1]
      cases zs with
      | nil => simp at hlen; omega
      | cons w zs =>
        refine h (y :: zs) q3 _ ⟨?_, by rw [← hold.len]; rfl, ?_⟩ ad3
        · refine List.nodup_cons.mpr ⟨fun hm => hin (List.mem_cons_of_mem _ hm), (List.nodup_cons.mp hnd).2⟩
        · intro v hv
          rcases List.mem_cons.mp hv with rfl | hv
          · refine ⟨hy, fun hf => hyb ?_⟩
            rw [hf] at hu
            simp at hu
            omega
          · exact hold.ok v (List.mem_cons_of_mem _ hv)
  · rw [wpB_false]
    walk_at "wp"
    rw [← ht1]
    exact h zs q3 _ hold ad3
theorem many_at {i : Nat} (h : i < 4) : ∃ m : Nat, atI [D.int 3, .int 3, .int 3, .int 6] (i : Int) = some (.int m) ∧ (m = 3 ∨ m = 6) := by
  rcases i with _|_|_|_|i
  · exact ⟨3, rfl, .inl rfl⟩
  · exact ⟨3, rfl, .inl rfl⟩
  · exact ⟨3, rfl, .inl rfl⟩
  · exact ⟨6, rfl, .inr rfl⟩
  · omega
theorem wp_pool {q : Sp0} {t : Sto} {Q : D → Sto → Prop} {E : XP} (hq : q.Ok) (hb : q.b < 3000000)
    (h : ∀ (q' : Sp0) (u : Sto), Pool (t ++ u) t.length → Adv q q' 220 → Q (.ref (t.length + 2)) (stm q' (t ++ u))) : wpR (l_wide_pool [.ref 1] (stm q t)) Q E := by
  unfold l_wide_pool
  refine wp_fn (by simp) ?_
  walk_at "wp"
  refine wpI_intro (le_line (by simp)) ?_
  walk_at "wp"
  refine wp_draw hq (by omega) (by decide) (by decide) fun i q1 h1 a1 => ?_
  have e1 := a1.hi
  obtain ⟨m, em, hm⟩ := many_at (i := i) (by omega)
  rw [fIx_lst, em]
  walk_at "wp"
  refine wpI_intro (le_line (by simp)) ?_
  walk_at "wp"
  refine wpI_intro (le_line (by simp)) ?_
  walk_at "wp"
  have es : ∀ s, seqOf s (.tup [.str "cells", .str "words", .str "faults"]) = some ([.str "cells", .str "words", .str "faults"], any_) := fun s => rfl
  rw [es]
  walk_at "wp"
  have hcells : PyData.strOk (Str.ofString "cells") = true := (nameOk_dec (z := "cells") (by decide)).str
  have hwords : PyData.strOk (Str.ofString "words") = true := (nameOk_dec (z := "words") (by decide)).str
  have hfaults : PyData.strOk (Str.ofString "faults") = true := (nameOk_dec (z := "faults") (by decide)).str
  refine wp_forC ?_
  simp only [↓wp_gmName, List.set_cons_zero, List.set_cons_succ]
  refine pool_turn (g := t.length) (L := []) (isF := false) a1.ok (by omega) hm hcells (by decide) last_get (by simp) (by simp) fun ca q2 o hca a2 => ?_
  have e2 := a2.hi
  rw [last_set]
  refine wp_forC ?_
  simp only [↓wp_gmName, List.set_cons_zero, List.set_cons_succ]
  have x1 : (t ++ [Ob.dct [((.inr "cells" : Key), .ref ((t ++ [Ob.dct []]).length + 2))]] ++ [Ob.lst (ca.map .str)]) = t ++ [Ob.dct [((.inr "cells" : Key), .ref (t.length + 1 + 2))], Ob.lst (ca.map .str)] := by simp
  refine wpS_store x1 ?_
  refine pool_turn (g := t.length) (L := [((.inr "cells" : Key), .ref (t.length + 1 + 2))]) (isF := false) a2.ok (by omega) hm hwords (by decide) (by simp) (by simp) (by simp; decide) fun wa q3 o' hwa a3 => ?_
  have e3 := a3.hi
  refine wp_forC ?_
  simp only [↓wp_gmName, List.set_cons_zero, List.set_cons_succ]
  have x2 : ((t ++ [Ob.dct [((.inr "cells" : Key), .ref (t.length + 1 + 2))], Ob.lst (ca.map .str)]).set t.length (.dct ([((.inr "cells" : Key), .ref (t.length + 1 + 2))] ++ [(.inr "words", .ref ((t ++ [Ob.dct [((.inr "cells" : Key), .ref (t.length + 1 + 2))], Ob.lst (ca.map .str)]).length + 2))])) ++ [Ob.lst (wa.map .str)]) = t ++ [Ob.dct [((.inr "cells" : Key), .ref (t.length + 1 + 2)), (.inr "words", .ref (t.length + 2 + 2))], Ob.lst (ca.map .str), Ob.lst (wa.map .str)] := by simp
  refine wpS_store x2 ?_
  refine pool_turn (g := t.length) (L := [((.inr "cells" : Key), .ref (t.length + 1 + 2)), (.inr "words", .ref (t.length + 2 + 2))]) (isF := true) a3.ok (by omega) hm hfaults (by decide) (by simp) (by simp) (by simp; decide) fun fa q4 o'' hfa a4 => ?_
  refine wp_forN ?_
  walk_at "wp"
  have x3 : ((t ++ [Ob.dct [((.inr "cells" : Key), .ref (t.length + 1 + 2)), (.inr "words", .ref (t.length + 2 + 2))], Ob.lst (ca.map .str), Ob.lst (wa.map .str)]).set t.length (.dct ([((.inr "cells" : Key), .ref (t.length + 1 + 2)), (.inr "words", .ref (t.length + 2 + 2))] ++ [(.inr "faults", .ref ((t ++ [Ob.dct [((.inr "cells" : Key), .ref (t.length + 1 + 2)), (.inr "words", .ref (t.length + 2 + 2))], Ob.lst (ca.map .str), Ob.lst (wa.map .str)]).length + 2))])) ++ [Ob.lst (fa.map .str)]) = t ++ [Ob.dct [((.inr "cells" : Key), .ref (t.length + 1 + 2)), (.inr "words", .ref (t.length + 2 + 2)), (.inr "faults", .ref (t.length + 3 + 2))], Ob.lst (ca.map .str), Ob.lst (wa.map .str), Ob.lst (fa.map .str)] := by simp
  rw [x3]
  have l1 := hca.len
  have l2 := hwa.len
  have l3 := hfa.len
  simp at l1 l2 l3
  refine h q4 _ ⟨t.length + 1, t.length + 2, t.length + 3, ca, wa, fa, ⟨by simp, by simp, by simp, by simp, hca.nd, by omega, by omega, by omega, fun z hz => (hca.ok z hz).1, fun z hz => (hwa.ok z hz).1, fun z hz => ⟨(hfa.ok z hz).1, (hfa.ok z hz).2 rfl⟩⟩⟩ (((a1.trans a2 (Int.le_refl _)).trans a3 (Int.le_refl _)).trans a4 (by decide))
end MP

set_option Elab.async false
set_option linter.all false
set_option maxRecDepth 100000
set_option maxHeartbeats 8000000
/-! PG7: things with lists in the place of some tuples -/
namespace MP
open PySem L2
local macro_rules | `(tactic| walk_at "wp") => `(tactic| try simp only [↓wp_mSeq, ↓wp_mNext, ↓wp_mBrk, ↓wp_mCnt, ↓wp_mExpr, ↓wp_mRet, ↓wp_mRetN, ↓wp_mIf, ↓wp_mSet, ↓wp_mPar, ↓wp_mPar3, ↓wp_mAsg, ↓wp_mFor, ↓wp_mDPut, ↓wp_mFldSet, ↓wp_mVar, ↓wp_mC, ↓wp_mOp, ↓wp_mUn, ↓wp_mNil, ↓wp_mCons, ↓wp_mStar, ↓wp_mTup, ↓wp_mLst, ↓wp_mLstB, ↓wp_mIfE, ↓wp_mTst, ↓wp_mNot, ↓wp_mAnd, ↓wp_mOr, ↓wp_mAndV, ↓wp_mOrV, ↓wp_mNotV, ↓wp_mChain, ↓wp_mCall, ↓wp_mCallB, ↓wpO_pu, ↓wp_mBm, ↓wp_mBm0, ↓wp_moN, ↓wp_moS, ↓wp_mSl, ↓wp_mIsi, ↓wp_mTab, ↓wp_mTabIn, ↓wp_mTabNotIn, ↓wp_mDGet, ↓wp_mDGet2, ↓wp_mDNew, ↓wp_mSortSet, ↓wp_mSortSetB, ↓wp_mLenSet, ↓wp_mFrz, ↓wp_mFld, ↓wp_mMeth, ↓wp_mMake, ↓wp_mLenO, ↓wp_mEqO, ↓wp_mNeO, ↓wp_mLc, ↓wp_mLcB, ↓wp_miSeq, ↓wp_miRng, ↓wp_miZip, ↓wp_miEnum, ↓wp_gmName, ↓wp_gmNil, ↓wp_gmCons, ↓wp_gmTup, ↓wp_gmSub, ↓wp_mYes, ↓wpR_ok, wpO_some, wpB_true, wpB_false, wpB_not, wpI_true, asB_bl, asI_int, asT_tup, asS_str, two_two, three_three, isNon_non, cI_int, pad, wipeE, List.getElem?_cons_zero, List.getElem?_cons_succ, List.set_cons_zero, List.set_cons_succ, fAdd_int, fSub_int, fLt_int, fLe_int, fGt_int, fGe_int, fEq_int, fNe_int, fNeg_int, stm_ix0, stm_ix1, stm_ix2, stm_ix3, stm_set1, stm_set2, stm_set3, stm_ne, stm_tyL0, gInt_int, tyS_str, stm_len, stm_app])
mutual
inductive Ls (t : Sto) : Nat → Nat → D → D → Prop where
  | int {lo hi : Nat} {i : Int} (h : lo ≤ hi) : Ls t lo hi (.int i) (.int i)
  | str {lo hi : Nat} {z : Str} (h : lo ≤ hi) : Ls t lo hi (.str z) (.str z)
  | tup {lo hi : Nat} {gs ds : List D} (h : LsL t lo hi gs ds) : Ls t lo hi (.tup gs) (.tup ds)
  | box {lo hi p : Nat} {gs ds : List D} (hp : t[p]? = some (.lst gs)) (h : LsL t lo p gs ds) (hh : p < hi) : Ls t lo hi (.ref (p + 2)) (.tup ds)
inductive LsL (t : Sto) : Nat → Nat → List D → List D → Prop where
  | nil {lo hi : Nat} (h : lo ≤ hi) : LsL t lo hi [] []
  | cons {lo m hi : Nat} {g d : D} {gs ds : List D} (h : Ls t lo m g d) (r : LsL t m hi gs ds) : LsL t lo hi (g :: gs) (d :: ds)
end
mutual
theorem Ls.le {t : Sto} : ∀ {lo hi : Nat} {g d : D}, Ls t lo hi g d → lo ≤ hi
  | _, _, _, _, .int h => h
  | _, _, _, _, .str h => h
  | _, _, _, _, .tup h => h.le
  | _, _, _, _, .box _ h hh => Nat.le_trans h.le (Nat.le_of_lt hh)
theorem LsL.le {t : Sto} : ∀ {lo hi : Nat} {g d : List D}, LsL t lo hi g d → lo ≤ hi
  | _, _, _, _, .nil h => h
  | _, _, _, _, .cons h r => Nat.le_trans h.le r.le
end
mutual
theorem Ls.up {t : Sto} : ∀ {lo hi hi' : Nat} {g d : D}, Ls t lo hi g d → hi ≤ hi' → Ls t lo hi' g d
  | _, _, _, _, _, .int h, k => .int (Nat.le_trans h k)
  | _, _, _, _, _, .str h, k => .str (Nat.le_trans h k)
  | _, _, _, _, _, .tup h, k => .tup (h.up k)
  | _, _, _, _, _, .box hp h hh, k => .box hp h (Nat.lt_of_lt_of_le hh k)
theorem LsL.up {t : Sto} : ∀ {lo hi hi' : Nat} {g d : List D}, LsL t lo hi g d → hi ≤ hi' → LsL t lo hi' g d
  | _, _, _, _, _, .nil h, k => .nil (Nat.le_trans h k)
  | _, _, _, _, _, .cons h r, k => .cons h (r.up k)
end
mutual
theorem Ls.keep {t t' : Sto} (e : ∀ (i : Nat) (o : Ob), t[i]? = some o → t'[i]? = some o) : ∀ {lo hi : Nat} {g d : D}, Ls t lo hi g d → Ls t' lo hi g d
  | _, _, _, _, .int h => .int h
  | _, _, _, _, .str h => .str h
  | _, _, _, _, .tup h => .tup (h.keep e)
  | _, _, _, _, .box hp h hh => .box (e _ _ hp) (h.keep e) hh
theorem LsL.keep {t t' : Sto} (e : ∀ (i : Nat) (o : Ob), t[i]? = some o → t'[i]? = some o) : ∀ {lo hi : Nat} {g d : List D}, LsL t lo hi g d → LsL t' lo hi g d
  | _, _, _, _, .nil h => .nil h
  | _, _, _, _, .cons h r => .cons (h.keep e) (r.keep e)
end
theorem app_keep {t u : Sto} : ∀ (i : Nat) (o : Ob), t[i]? = some o → (t ++ u)[i]? = some o := fun i o h => by
  rw [List.getElem?_append_left (List.getElem?_eq_some_iff.mp h).1]; exact h
mutual
theorem Ls.low {t : Sto} : ∀ {lo lo' hi : Nat} {g d : D}, Ls t lo hi g d → lo' ≤ lo → Ls t lo' hi g d
  | _, _, _, _, _, .int h, k => .int (Nat.le_trans k h)
  | _, _, _, _, _, .str h, k => .str (Nat.le_trans k h)
  | _, _, _, _, _, .tup h, k => .tup (h.low k)
  | _, _, _, _, _, .box hp h hh, k => .box hp (h.low k) hh
theorem LsL.low {t : Sto} : ∀ {lo lo' hi : Nat} {g d : List D}, LsL t lo hi g d → lo' ≤ lo → LsL t lo' hi g d
  | _, _, _, _, _, .nil h, k => .nil (Nat.le_trans k h)
  | _, _, _, _, _, .cons h r, k => .cons (h.low k) r
end
theorem LsL.snoc {t : Sto} {m hi : Nat} {g d : D} (h : Ls t m hi g d) : ∀ {lo : Nat} {gs ds : List D}, LsL t lo m gs ds → LsL t lo hi (gs ++ [g]) (ds ++ [d])
  | _, _, _, .nil h0 => .cons (h.low h0) (.nil (Nat.le_refl _))
  | _, _, _, .cons h1 r => .cons h1 (LsL.snoc h r)
theorem LsL.len {t : Sto} : ∀ {lo hi : Nat} {gs ds : List D}, LsL t lo hi gs ds → gs.length = ds.length
  | _, _, _, _, .nil _ => rfl
  | _, _, _, _, .cons _ r => by rw [List.length_cons, List.length_cons, r.len]
mutual
def tn : D → Nat
  | .tup l => 1 + tnL l
  | _ => 0
def tnL : List D → Nat
  | [] => 0
  | d :: ds => tn d + tnL ds
end
theorem tnL_app : ∀ (a b : List D), tnL (a ++ b) = tnL a + tnL b
  | [], b => by simp [tnL]
  | d :: a, b => by simp only [List.cons_append, tnL, tnL_app a b]; omega
/-- plain data: numbers, texts, tuples, so deep -/
def Pd : Nat → D → Prop
  | _, .int _ => True
  | _, .str _ => True
  | n + 1, .tup ds => ds.length ≤ 1000 ∧ ∀ d ∈ ds, Pd n d
  | _, _ => False
theorem wp_listed : ∀ (n N : Nat) {q : Sp0} {t : Sto} {d : D} {Q : D → Sto → Prop} {E : XP}, Pd n d → n < N → q.Ok → q.b + tn d < 8000000 →
    (∀ (g : D) (q' : Sp0) (u : Sto), Ls (t ++ u) t.length (t ++ u).length g d → Adv q q' (tn d) → Q g (stm q' (t ++ u))) → wpR (l_listed N [.ref 1, d] (stm q t)) Q E := by
  intro n
  induction n with
  | zero =>
    intro N q t d Q E hp hN hq hb h
    obtain ⟨N, rfl⟩ : ∃ M, N = M + 1 := ⟨N - 1, by omega⟩
    unfold l_listed
    refine wp_fn (by simp) ?_
    cases d with
    | int i =>
      walk_at "wp"
      have e : (kdD (stm q t) (.int i)).bind (fB ["tuple"]) = some false := rfl
      rw [e]
      walk_at "wp"
      have := h (.int i) q [] (by simpa using Ls.int (Nat.le_refl _)) (Adv.refl hq)
      simpa using this
    | str z =>
      walk_at "wp"
      have e : (kdD (stm q t) (.str z)).bind (fB ["tuple"]) = some false := rfl
      rw [e]
      walk_at "wp"
      have := h (.str z) q [] (by simpa using Ls.str (Nat.le_refl _)) (Adv.refl hq)
      simpa using this
    | _ => exact hp.elim
  | succ n ih =>
    intro N q t d Q E hp hN hq hb h
    obtain ⟨N, rfl⟩ : ∃ M, N = M + 1 := ⟨N - 1, by omega⟩
    unfold l_listed
    refine wp_fn (by simp) ?_
    cases d with
    | int i =>
      walk_at "wp"
      have e : (kdD (stm q t) (.int i)).bind (fB ["tuple"]) = some false := rfl
      rw [e]
      walk_at "wp"
      have := h (.int i) q [] (by simpa using Ls.int (Nat.le_refl _)) (Adv.refl hq)
      simpa using this
    | str z =>
      walk_at "wp"
      have e : (kdD (stm q t) (.str z)).bind (fB ["tuple"]) = some false := rfl
      rw [e]
      walk_at "wp"
      have := h (.str z) q [] (by simpa using Ls.str (Nat.le_refl _)) (Adv.refl hq)
      simpa using this
    | tup ds =>
      obtain ⟨hl, hp⟩ := hp
      rw [tn] at hb
      walk_at "wp"
      have e : (kdD (stm q t) (.tup ds)).bind (fB ["tuple"]) = some true := rfl
      rw [e]
      walk_at "wp"
      have es : seqOf (stm q t) (.tup ds) = some (ds, any_) := rfl
      rw [es]
      walk_at "wp"
      refine wpI_intro (le_line hl) ?_
      refine wp_lcB (fun rest acc s => ∃ (q' : Sp0) (u : Sto) (done : List D), s = stm q' (t ++ u) ∧ LsL (t ++ u) t.length (t ++ u).length acc done ∧ done ++ rest = ds ∧ Adv q q' (tnL done)) ?_ ?_ ⟨q, [], [], by simp, by simpa using LsL.nil (Nat.le_refl _), by simp, Adv.refl hq⟩
      · rintro x rest acc s ⟨q1, u, done, rfl, hls, hds, a1⟩
        refine ⟨trivial, ?_⟩
        have hx : Pd n x := hp x (by rw [← hds]; simp)
        have htn : tnL ds = tnL done + (tn x + tnL rest) := by rw [← hds, tnL_app, tnL]
        have e1 := a1.hi
        walk_at "wp"
        refine ih N hx (by omega) a1.ok (by omega) fun g q2 v hg a2 => ?_
        refine ⟨q2, u ++ v, done ++ [x], by rw [List.append_assoc], ?_, by simpa using hds, a1.trans a2 (by rw [tnL_app, tnL, tnL]; omega)⟩
        have h1 := hls.keep (app_keep (u := v))
        rw [← List.append_assoc]
        exact LsL.snoc hg h1
      · rintro acc s ⟨q1, u, done, rfl, hls, hds, a1⟩
        refine ⟨trivial, ?_⟩
        rw [List.append_nil] at hds
        subst hds
        have e1 := a1.hi
        walk_at "wp"
        refine wp_draw a1.ok (by omega) (by decide) (by decide) fun i q2 h2 a2 => ?_
        have ad : Adv q q2 (tn (.tup done)) := a1.trans a2 (by rw [tn]; omega)
        have hl2 := hls.keep (app_keep (u := [.lst acc]))
        rw [List.append_assoc] at hl2 ⊢
        walk_at "wp"
        refine wpB_dec (fun hi => ?_) (fun hi => ?_)
        · walk_at "wp"
          refine h (.ref ((t ++ u).length + 2)) q2 (u ++ [.lst acc]) ?_ ad
          refine .box (gs := acc) ?_ hl2 ?_
          · rw [← List.append_assoc]; exact last_get
          · rw [← List.append_assoc, List.length_append]; simp
        · walk_at "wp"
          have e5 : gTuple (stm q2 (t ++ (u ++ [.lst acc]))) [.ref ((t ++ u).length + 2)] = some (.tup acc) := by
            unfold gTuple
            dsimp only
            rw [items_stm (l := acc) (by rw [← List.append_assoc]; exact last_get)]
            rfl
          rw [e5]
          walk_at "wp"
          refine h (.tup acc) q2 (u ++ [.lst acc]) (.tup (hl2.up ?_)) ad
          rw [← List.append_assoc, List.length_append]; simp
    | _ => exact hp.elim
end MP

set_option Elab.async false
set_option linter.all false
set_option maxRecDepth 100000
set_option maxHeartbeats 8000000
/-! PP1: which things are steps -/
namespace MP
open PySem L2
local macro_rules | `(tactic| walk_at "wp") => `(tactic| try simp only [↓wp_mSeq, ↓wp_mNext, ↓wp_mBrk, ↓wp_mCnt, ↓wp_mExpr, ↓wp_mRet, ↓wp_mRetN, ↓wp_mIf, ↓wp_mSet, ↓wp_mPar, ↓wp_mPar3, ↓wp_mAsg, ↓wp_mFor, ↓wp_mDPut, ↓wp_mFldSet, ↓wp_mVar, ↓wp_mC, ↓wp_mOp, ↓wp_mUn, ↓wp_mNil, ↓wp_mCons, ↓wp_mStar, ↓wp_mTup, ↓wp_mLst, ↓wp_mLstB, ↓wp_mIfE, ↓wp_mTst, ↓wp_mNot, ↓wp_mAnd, ↓wp_mOr, ↓wp_mAndV, ↓wp_mOrV, ↓wp_mNotV, ↓wp_mChain, ↓wp_mCall, ↓wp_mCallB, ↓wpO_pu, ↓wp_mBm, ↓wp_mBm0, ↓wp_moN, ↓wp_moS, ↓wp_mSl, ↓wp_mIsi, ↓wp_mTab, ↓wp_mTabIn, ↓wp_mTabNotIn, ↓wp_mDGet, ↓wp_mDGet2, ↓wp_mDNew, ↓wp_mSortSet, ↓wp_mSortSetB, ↓wp_mLenSet, ↓wp_mFrz, ↓wp_mFld, ↓wp_mMeth, ↓wp_mMake, ↓wp_mLenO, ↓wp_mEqO, ↓wp_mNeO, ↓wp_mLc, ↓wp_mLcB, ↓wp_miSeq, ↓wp_miRng, ↓wp_miZip, ↓wp_miEnum, ↓wp_gmName, ↓wp_gmNil, ↓wp_gmCons, ↓wp_gmTup, ↓wp_gmSub, ↓wp_mYes, ↓wpR_ok, wpO_some, wpB_true, wpB_false, wpB_not, wpI_true, asB_bl, asI_int, asT_tup, asS_str, two_two, three_three, isNon_non, cI_int, pad, wipeE, List.getElem?_cons_zero, List.getElem?_cons_succ, List.set_cons_zero, List.set_cons_succ, fAdd_int, fSub_int, fLt_int, fLe_int, fGt_int, fGe_int, fEq_int, fNe_int, fNeg_int, stm_ix0, stm_ix1, stm_ix2, stm_ix3, stm_set1, stm_set2, stm_set3, stm_ne, stm_tyL0, gInt_int, tyS_str, stm_len, stm_app])
theorem eq_of_wp {x : RO D} {a : D} {s : Sto} (h : wpR x (fun d s' => d = a ∧ s' = s) (fun _ _ => False)) : x = some (.ok a s) := by
  obtain ⟨d, s', e, rfl, rfl⟩ := wpR_get h
  exact e
def Lw (t : Sto) (g d : D) : Prop := ∃ lo hi, Ls t lo hi g d
theorem LsL.pair {t : Sto} : ∀ {lo hi : Nat} {gs ds : List D}, LsL t lo hi gs ds → Paired (Lw t) gs ds
  | _, _, _, _, .nil _ => .nil
  | _, _, _, _, .cons h r => .cons ⟨_, _, h⟩ r.pair
theorem Lw.keep {t t' : Sto} (e : ∀ (i : Nat) (o : Ob), t[i]? = some o → t'[i]? = some o) {g d : D} (h : Lw t g d) : Lw t' g d := by
  obtain ⟨lo, hi, h⟩ := h
  exact ⟨lo, hi, h.keep e⟩
/-- what a listed tuple is -/
structure Seq (t : Sto) (g : D) (gs : List D) : Prop where
  frm : g = .tup gs ∨ ∃ p, g = .ref (p + 2) ∧ t[p]? = some (.lst gs)
  items : ∀ q, items? (stm q t) g = some gs
  kd : ∀ q, kdD (stm q t) g = some (.t "list") ∨ kdD (stm q t) g = some (.t "tuple")
  seq : ∀ q, ∃ G, seqOf (stm q t) g = some (gs, G) ∧ ∀ (q' : Sp0) (t' : Sto), (∀ (i : Nat) (o : Ob), t[i]? = some o → t'[i]? = some o) → G (stm q' t')
  ns : ∀ w, g ≠ .str w
  tl : ∀ q x r, gs = x :: r → ∃ g', fSl (stm q t) g (some 1) none = some g' ∧ (g' = .tup r ∨ g' = .lst r)
  ix : ∀ q (i : Int), fIx (stm q t) g (.int i) = atI gs i
theorem cut1 {x : D} {r : List D} : cutD (x :: r) (some 1) none = r := by
  unfold cutD
  have e : HT.sIx (x :: r).length 0 (some 1) = 1 := by
    have := HT.sIx_nat (x :: r).length 0 1
    rw [List.length_cons] at this ⊢
    rw [show ((1 : Nat) : Int) = 1 from rfl] at this
    rw [this]
    omega
  rw [e, HT.sIx_none]
  simp
theorem seq_of {t : Sto} {g : D} {gs : List D} (h : g = .tup gs ∨ ∃ p, g = .ref (p + 2) ∧ t[p]? = some (.lst gs)) : Seq t g gs := by
  refine ⟨h, ?_, ?_, ?_, ?_, ?_, ?_⟩
  · intro q
    rcases h with rfl | ⟨p, rfl, hp⟩
    · rfl
    · exact items_stm hp
  · intro q
    rcases h with rfl | ⟨p, rfl, hp⟩
    · exact .inr rfl
    · exact .inl (kd_stm hp)
  · intro q
    rcases h with rfl | ⟨p, rfl, hp⟩
    · exact ⟨any_, rfl, fun _ _ _ => trivial⟩
    · refine ⟨_, seqOf_stm hp, fun q' t' hk => ?_⟩
      show (stm q' t')[p + 2]? = some (.lst gs)
      rw [stm_get]
      exact hk _ _ hp
  · intro w
    rcases h with rfl | ⟨p, rfl, hp⟩ <;> (intro e; cases e)
  · intro q x r e
    subst e
    rcases h with rfl | ⟨p, rfl, hp⟩
    · refine ⟨.tup r, ?_, .inl rfl⟩
      show some (D.tup (cutD (x :: r) (some 1) none)) = _
      rw [cut1]
    · refine ⟨.lst r, ?_, .inr rfl⟩
      unfold fSl
      dsimp only
      rw [lst_stm hp, Option.map_some, cut1]
  · intro q i
    rcases h with rfl | ⟨p, rfl, hp⟩
    · rfl
    · exact fIx_stm hp
theorem Seq.keep {t t' : Sto} {g : D} {gs : List D} (S : Seq t g gs) (e : ∀ (i : Nat) (o : Ob), t[i]? = some o → t'[i]? = some o) : Seq t' g gs := by
  refine seq_of ?_
  rcases S.frm with h | ⟨p, h, hp⟩
  · exact .inl h
  · exact .inr ⟨p, h, e _ _ hp⟩
theorem Lw.seq {t : Sto} {g : D} {ds : List D} (h : Lw t g (.tup ds)) : ∃ gs, Seq t g gs ∧ Paired (Lw t) gs ds := by
  obtain ⟨lo, hi, h⟩ := h
  cases h with
  | @tup _ _ gs _ h => exact ⟨gs, seq_of (.inl rfl), h.pair⟩
  | @box _ _ p gs _ hp h hh => exact ⟨gs, seq_of (.inr ⟨p, rfl, hp⟩), h.pair⟩
theorem pr_len {α β : Type} {R : α → β → Prop} : ∀ {xs : List α} {ys : List β}, Paired R xs ys → xs.length = ys.length
  | _, _, .nil => rfl
  | _, _, .cons _ r => by rw [List.length_cons, List.length_cons, pr_len r]
section
variable {q : Sp0} {t : Sto} {g : D} {gs : List D}
theorem is_list_yes (S : Seq t g gs) : p_is_list [g] (stm q t) = some (.ok (.bl true) (stm q t)) := by
  refine eq_of_wp ?_
  unfold p_is_list
  refine wp_fn (by simp) ?_
  walk_at "wp"
  have e : (kdD (stm q t) g).bind (fB ["list", "tuple"]) = some true := by
    rcases S.kd q with h | h <;> rw [h] <;> rfl
  rw [e]
  walk_at "wp"
  exact ⟨by trivial, by trivial⟩
theorem bls_true : ∀ {ds : List D}, (∀ d ∈ ds, d = .bl true) → ∃ bs, bls ds = some bs ∧ bs.all id = true
  | [], _ => ⟨[], rfl, rfl⟩
  | d :: ds, h => by
    obtain ⟨bs, h1, h2⟩ := bls_true fun x hx => h x (List.mem_cons_of_mem _ hx)
    rw [h d List.mem_cons_self]
    exact ⟨true :: bs, by simp [bls, h1], by simpa using h2⟩
theorem gAll_true {s : Sto} {ds : List D} (h : ∀ d ∈ ds, d = .bl true) : gAll s [.lst ds] = some (.bl true) := by
  obtain ⟨bs, h1, h2⟩ := bls_true h
  unfold gAll
  dsimp only [lst?]
  rw [Option.bind_some, h1, Option.map_some, h2]
theorem letters_mem {c : Nat} (h : 97 ≤ c ∧ c ≤ 122) : c ∈ letters.cps.toList := by
  have e := letters_at (i := c - 97) (by omega)
  have : 97 + (c - 97) = c := by omega
  rw [this] at e
  exact List.mem_of_getElem? e
theorem is_name_yes {s : Sto} {z : Str} (h : NameOk z) : p_is_name [.str z] s = some (.ok (.bl true) s) := by
  refine eq_of_wp ?_
  unfold p_is_name
  refine wp_fn (by simp) ?_
  walk_at "wp"
  have e : (kdD s (.str z)).bind (fB ["str"]) = some true := rfl
  rw [e]
  walk_at "wp"
  have hl : z.length ≤ 8 := h.hi
  have hl1 : 1 ≤ z.length := h.lo
  have el : gLen s [.str z] = some (.int z.length) := by
    unfold gLen
    dsimp only
    rw [if_pos (by omega)]
  rw [el]
  walk_at "wp"
  rw [decide_eq_true (show (1 : Int) ≤ z.length by omega)]
  walk_at "wp"
  rw [decide_eq_true (show (z.length : Int) ≤ 8 by omega)]
  walk_at "wp"
  have es : seqOf s (.str z) = some (signs z, any_) := rfl
  rw [es]
  walk_at "wp"
  refine wpI_intro (le_line (by rw [signs_len]; have := h.hi; omega)) ?_
  rw [lcL_pure (fun _ => some (.bl true)) (fun d hd => ?_)]
  · walk_at "wp"
    rw [gAll_true (fun d hd => by obtain ⟨x, _, e⟩ := List.mem_filterMap.mp hd; exact (Option.some.inj e).symm)]
    walk_at "wp"
    exact ⟨by trivial, by trivial⟩
  · unfold signs at hd
    obtain ⟨c, hc, rfl⟩ := List.mem_map.mp hd
    refine ⟨_, rfl, rfl, ?_⟩
    have g : fIn s (.str ⟨#[c]⟩) (.str "abcdefghijklmnopqrstuvwxyz") = some (.bl true) := by
      unfold fIn in?
      dsimp only
      rw [Option.map_some, decide_eq_true (letters_mem (h.all c hc))]
    simp only [mOp, mVar, mC, wipeE, List.set_cons_zero, List.set_cons_succ, List.getElem?_cons_zero, List.getElem?_cons_succ, bnd_ok, g, ofO_some]
theorem is_integer_yes {s : Sto} {i : Int} : p_is_integer [.int i] s = some (.ok (.bl true) s) := by
  refine eq_of_wp ?_
  unfold p_is_integer
  refine wp_fn (by simp) ?_
  walk_at "wp"
  have e : (kdD s (.int i)).bind (fB ["int"]) = some true := rfl
  have e2 : (kdD s (.int i)).bind (fB ["bool"]) = some false := rfl
  rw [e]
  walk_at "wp"
  rw [e2]
  walk_at "wp"
  exact ⟨by trivial, by trivial⟩
theorem dd_len {zs : List Str} (h : zs.Nodup) : (ddS zs).length = zs.length := by
  have p : (ddS zs).Perm zs := by
    refine List.perm_iff_count.mpr fun a => ?_
    rw [List.Nodup.count (ddS_nodup zs), List.Nodup.count h]
    simp [ddS_mem]
  exact p.length_eq
theorem Lw.str {t : Sto} {g : D} {z : Str} (h : Lw t g (.str z)) : g = .str z := by
  obtain ⟨lo, hi, h⟩ := h
  cases h; rfl
theorem Lw.int {t : Sto} {g : D} {i : Int} (h : Lw t g (.int i)) : g = .int i := by
  obtain ⟨lo, hi, h⟩ := h
  cases h; rfl
theorem Lw.strs {t : Sto} : ∀ {gs : List D} {zs : List Str}, Paired (Lw t) gs (zs.map .str) → gs = zs.map .str
  | _, [], .nil => rfl
  | _, z :: zs, .cons h r => by rw [h.str, Lw.strs r]; rfl
theorem txtsOf_seq (S : Seq t g gs) {zs : List Str} (e : gs = zs.map .str) (hl : zs.length ≤ 1000) : txtsOf (stm q t) g = some zs := by
  unfold txtsOf
  rw [S.items, e, Option.bind_some, txts_map]
  dsimp only
  rw [if_pos (by omega)]
theorem gLen_seq (S : Seq t g gs) : gLen (stm q t) [g] = some (.int gs.length) := by
  unfold gLen
  split
  · rename_i z e
    injection e with e _
    exact absurd e (S.ns z)
  · rename_i x h e
    injection e with e _
    subst e
    rw [S.items]
    rfl
  · rename_i h1 h2
    exact absurd rfl (h2 g)
theorem is_held_yes (S : Seq t g gs) {zs : List Str} (e : gs = zs.map .str) (hd : zs.Nodup) (hl : zs.length ≤ 6) (hn : ∀ z ∈ zs, NameOk z) : p_is_held [g] (stm q t) = some (.ok (.bl true) (stm q t)) := by
  refine eq_of_wp ?_
  unfold p_is_held
  refine wp_fn (by simp) ?_
  walk_at "wp"
  rw [is_list_yes S]
  walk_at "wp"
  obtain ⟨G, es, hG⟩ := S.seq q
  rw [es]
  walk_at "wp"
  refine wpI_intro (le_line (by rw [e]; simp; omega)) ?_
  refine wp_lcB (fun rest acc s => s = stm q t ∧ (∀ x ∈ rest, ∃ z, x = .str z ∧ NameOk z) ∧ ∀ y ∈ acc, y = .bl true) ?_ ?_ ⟨rfl, fun x hx => ?_, by simp⟩
  · rintro x rest acc s ⟨rfl, h1, h2⟩
    refine ⟨hG q t fun _ _ h => h, ?_⟩
    obtain ⟨z, rfl, hz⟩ := h1 x List.mem_cons_self
    walk_at "wp"
    rw [is_name_yes hz]
    walk_at "wp"
    exact ⟨by trivial, fun y hy => h1 y (List.mem_cons_of_mem _ hy), fun y hy => by
      rcases List.mem_append.mp hy with h | h
      · exact h2 y h
      · simpa using h⟩
  · rintro acc s ⟨rfl, h1, h2⟩
    refine ⟨hG q t fun _ _ h => h, ?_⟩
    walk_at "wp"
    rw [gAll_true h2]
    walk_at "wp"
    rw [txtsOf_seq S e (by omega)]
    walk_at "wp"
    rw [gLen_seq S]
    walk_at "wp"
    rw [dd_len hd, e, List.length_map]
    exact ⟨by simp, by trivial⟩
  · rw [e] at hx
    obtain ⟨z, hz, rfl⟩ := List.mem_map.mp hx
    exact ⟨z, rfl, hn z hz⟩
end
end MP

set_option Elab.async false
set_option linter.all false
set_option maxRecDepth 100000
set_option maxHeartbeats 8000000
/-! PP2: steps told from other things, frozen -/
namespace MP
open PySem L2
local macro_rules | `(tactic| walk_at "wp") => `(tactic| try simp only [↓wp_mSeq, ↓wp_mNext, ↓wp_mBrk, ↓wp_mCnt, ↓wp_mExpr, ↓wp_mRet, ↓wp_mRetN, ↓wp_mIf, ↓wp_mSet, ↓wp_mPar, ↓wp_mPar3, ↓wp_mAsg, ↓wp_mFor, ↓wp_mDPut, ↓wp_mFldSet, ↓wp_mVar, ↓wp_mC, ↓wp_mOp, ↓wp_mUn, ↓wp_mNil, ↓wp_mCons, ↓wp_mStar, ↓wp_mTup, ↓wp_mLst, ↓wp_mLstB, ↓wp_mIfE, ↓wp_mTst, ↓wp_mNot, ↓wp_mAnd, ↓wp_mOr, ↓wp_mAndV, ↓wp_mOrV, ↓wp_mNotV, ↓wp_mChain, ↓wp_mCall, ↓wp_mCallB, ↓wpO_pu, ↓wp_mBm, ↓wp_mBm0, ↓wp_moN, ↓wp_moS, ↓wp_mSl, ↓wp_mIsi, ↓wp_mTab, ↓wp_mTabIn, ↓wp_mTabNotIn, ↓wp_mDGet, ↓wp_mDGet2, ↓wp_mDNew, ↓wp_mSortSet, ↓wp_mSortSetB, ↓wp_mLenSet, ↓wp_mFrz, ↓wp_mFld, ↓wp_mMeth, ↓wp_mMake, ↓wp_mLenO, ↓wp_mEqO, ↓wp_mNeO, ↓wp_mLc, ↓wp_mLcB, ↓wp_miSeq, ↓wp_miRng, ↓wp_miZip, ↓wp_miEnum, ↓wp_gmName, ↓wp_gmNil, ↓wp_gmCons, ↓wp_gmTup, ↓wp_gmSub, ↓wp_mYes, ↓wpR_ok, wpO_some, wpB_true, wpB_false, wpB_not, wpI_true, asB_bl, asI_int, asT_tup, asS_str, two_two, three_three, isNon_non, cI_int, pad, wipeE, List.getElem?_cons_zero, List.getElem?_cons_succ, List.set_cons_zero, List.set_cons_succ, fAdd_int, fSub_int, fLt_int, fLe_int, fGt_int, fGe_int, fEq_int, fNe_int, fNeg_int, stm_ix0, stm_ix1, stm_ix2, stm_ix3, stm_set1, stm_set2, stm_set3, stm_ne, stm_tyL0, gInt_int, tyS_str, stm_len, stm_app])
abbrev sg (c : Nat) : D := .str ⟨#[c]⟩
theorem strOk_of {z : Str} (h : z.cps.toList.all (fun c => decide (c < 1114112)) = true) : PyData.strOk z = true := by
  unfold PyData.strOk
  rw [Array.all_eq_true']
  intro c hc
  have := List.all_eq_true.mp h c (Array.mem_toList_iff.mpr hc)
  simpa using this
theorem kind_eq {s : Sto} {c e : Nat} {k : Str} (hk : k = ⟨#[e]⟩) (hc : c < 1114112) (he : e < 1114112) : fEq s (sg c) (.str k) = some (.bl (decide (c = e))) := by
  subst hk
  rw [fEq_str (strOk_of (by simpa using hc)) (strOk_of (by simpa using he))]
  congr 2
  simp
theorem k_w {s : Sto} {c : Nat} (hc : c < 1114112) : fEq s (sg c) (.str "w") = some (.bl (decide (c = 119))) := kind_eq (by decide) hc (by decide)
theorem k_c {s : Sto} {c : Nat} (hc : c < 1114112) : fEq s (sg c) (.str "c") = some (.bl (decide (c = 99))) := kind_eq (by decide) hc (by decide)
theorem k_f {s : Sto} {c : Nat} (hc : c < 1114112) : fEq s (sg c) (.str "f") = some (.bl (decide (c = 102))) := kind_eq (by decide) hc (by decide)
theorem k_n {s : Sto} {c : Nat} (hc : c < 1114112) : fEq s (sg c) (.str "n") = some (.bl (decide (c = 110))) := kind_eq (by decide) hc (by decide)
theorem k_t {s : Sto} {c : Nat} (hc : c < 1114112) : fEq s (sg c) (.str "t") = some (.bl (decide (c = 116))) := kind_eq (by decide) hc (by decide)
theorem k_h {s : Sto} {c : Nat} (hc : c < 1114112) : fEq s (sg c) (.str "h") = some (.bl (decide (c = 104))) := kind_eq (by decide) hc (by decide)
theorem k_l {s : Sto} {c : Nat} (hc : c < 1114112) : fEq s (sg c) (.str "l") = some (.bl (decide (c = 108))) := kind_eq (by decide) hc (by decide)
theorem ItOk.lt {S : D → Prop} {c : Nat} {d : D} (h : ItOk S c d) : c < 1114112 := by cases h <;> decide
local macro_rules | `(tactic| walk_at "kd") => `(tactic| simp only [k_w (show 119 < 1114112 by decide), k_c (show 119 < 1114112 by decide), k_w (show 99 < 1114112 by decide), k_c (show 99 < 1114112 by decide)])
theorem fits_yes {q : Sp0} {t : Sto} {g d : D} {c : Nat} {S : D → Prop} (h : ItOk S c d) (w : Lw t g d) : p_fits [g, sg c] (stm q t) = some (.ok (.bl true) (stm q t)) := by
  have hc := h.lt
  have T : ∀ {p : Prop} [Decidable p], p → decide p = true := fun h => decide_eq_true h
  have F : ∀ {p : Prop} [Decidable p], ¬ p → decide p = false := fun h => decide_eq_false h
  refine eq_of_wp ?_
  unfold p_fits
  refine wp_fn (by simp) ?_
  walk_at "wp"
  rw [k_w hc]
  cases h with
  | w hz =>
    obtain rfl := w.str
    rw [T rfl]
    walk_at "wp"
    rw [is_name_yes hz]
    walk_at "wp"
    exact ⟨by trivial, by trivial⟩
  | c hz =>
    obtain rfl := w.str
    rw [F (by decide)]
    walk_at "wp"
    rw [k_c hc, T rfl]
    walk_at "wp"
    rw [is_name_yes hz]
    walk_at "wp"
    exact ⟨by trivial, by trivial⟩
  | @f z hz hb =>
    obtain rfl := w.str
    rw [F (by decide)]
    walk_at "wp"
    rw [k_c hc, F (by decide)]
    walk_at "wp"
    rw [k_f hc, T rfl]
    walk_at "wp"
    rw [is_name_yes hz]
    walk_at "wp"
    rw [fNe_str hz.str (nameOk_dec (z := "back") (by decide)).str, F hb]
    walk_at "wp"
    exact ⟨by trivial, by trivial⟩
  | n hi =>
    obtain rfl := w.int
    rw [F (by decide)]
    walk_at "wp"
    rw [k_c hc, F (by decide)]
    walk_at "wp"
    rw [k_f hc, F (by decide)]
    walk_at "wp"
    rw [k_n hc, T rfl]
    walk_at "wp"
    rw [is_integer_yes]
    walk_at "wp"
    exact ⟨by trivial, by trivial⟩
  | t h1 h2 =>
    obtain rfl := w.int
    rw [F (by decide)]
    walk_at "wp"
    rw [k_c hc, F (by decide)]
    walk_at "wp"
    rw [k_f hc, F (by decide)]
    walk_at "wp"
    rw [k_n hc, F (by decide)]
    walk_at "wp"
    rw [k_t hc, T rfl]
    walk_at "wp"
    rw [is_integer_yes]
    walk_at "wp"
    rw [T h1]
    walk_at "wp"
    rw [T h2]
    exact ⟨by trivial, by trivial⟩
  | h hd hl hn =>
    obtain ⟨gs, S', P⟩ := w.seq
    rw [F (by decide)]
    walk_at "wp"
    rw [k_c hc, F (by decide)]
    walk_at "wp"
    rw [k_f hc, F (by decide)]
    walk_at "wp"
    rw [k_n hc, F (by decide)]
    walk_at "wp"
    rw [k_t hc, F (by decide)]
    walk_at "wp"
    rw [k_h hc, T rfl]
    walk_at "wp"
    rw [is_held_yes S' (Lw.strs P) hd hl hn]
    walk_at "wp"
    exact ⟨by trivial, by trivial⟩
  | l hx =>
    obtain ⟨gs, S', P⟩ := w.seq
    rw [F (by decide)]
    walk_at "wp"
    rw [k_c hc, F (by decide)]
    walk_at "wp"
    rw [k_f hc, F (by decide)]
    walk_at "wp"
    rw [k_n hc, F (by decide)]
    walk_at "wp"
    rw [k_t hc, F (by decide)]
    walk_at "wp"
    rw [k_h hc, F (by decide)]
    walk_at "wp"
    rw [is_list_yes S']
    walk_at "wp"
    exact ⟨by trivial, by trivial⟩
theorem signs_map (z : Str) : signs z = z.cps.toList.map sg := rfl
theorem zip_cons {g : D} {gs : List D} {c : Nat} {cs : List Nat} : zipD (g :: gs) ((c :: cs).map sg) = .tup [g, sg c] :: zipD gs (cs.map sg) := rfl
/-- a listed step's parts -/
structure StepAt (n : Nat) (t : Sto) (g d : D) : Prop where
  ex : ∃ (w sh : Str) (its gs : List D), d = .tup (.str w :: its) ∧ T_SHAPES.lookup w = some sh ∧ Paired (ItOk (StepOk n)) sh.cps.toList its ∧ Seq t g (.str w :: gs) ∧ Paired (Lw t) gs its
theorem step_at_ {n : Nat} {t : Sto} {g d : D} (h : StepOk (n + 1) d) (w : Lw t g d) : StepAt n t g d := by
  obtain ⟨wd, sh, its, rfl, h1, h2⟩ := h
  obtain ⟨gs, S, P⟩ := w.seq
  cases P with
  | @cons g0 _ gs' _ hg r =>
    obtain rfl := hg.str
    exact ⟨wd, sh, its, gs', rfl, h1, h2, S, r⟩
theorem shape_len : ∀ {w sh : Str}, T_SHAPES.lookup w = some sh → sh.cps.toList.length ≤ 5 := by
  intro w sh h
  have key : ∀ p ∈ T_SHAPES, p.2.cps.toList.length ≤ 5 := by decide
  have hm : ∀ {l : List (Str × Str)}, l.lookup w = some sh → (w, sh) ∈ l := by
    intro l
    induction l with
    | nil => intro h; cases h
    | cons p l ih =>
      intro h
      obtain ⟨a, b⟩ := p
      rw [List.lookup_cons] at h
      cases e : w == a with
      | true =>
        rw [e] at h
        have := beq_iff_eq.mp e
        subst this
        cases h
        exact List.mem_cons_self
      | false =>
        rw [e] at h
        exact List.mem_cons_of_mem _ (ih h)
  exact key _ (hm h)
theorem zip_of {s : Sto} {g' : D} {r : List D} {z : Str} (h : g' = .tup r ∨ g' = .lst r) : zip? s [g', .str z] = some (zipD r (z.cps.toList.map sg), fun s => any_ s ∧ any_ s) := by
  rcases h with rfl | rfl <;> rfl
theorem is_step_yes {q : Sp0} {t : Sto} {n : Nat} {g d : D} (h : StepOk (n + 1) d) (w : Lw t g d) : p_is_step [g] (stm q t) = some (.ok (.bl true) (stm q t)) := by
  obtain ⟨wd, sh, its, gs, rfl, h1, h2, S, P⟩ := (step_at_ h w).ex
  have hlen := pr_len h2
  have hlen2 := pr_len P
  have hsh := shape_len h1
  refine eq_of_wp ?_
  unfold p_is_step
  refine wp_fn (by simp) ?_
  walk_at "wp"
  rw [is_list_yes S]
  walk_at "wp"
  rw [gLen_seq S]
  walk_at "wp"
  rw [decide_eq_false (show ¬ (((.str wd :: gs : List D).length : Nat) : Int) = 0 by simp; omega)]
  walk_at "wp"
  have e0 : atI (.str wd :: gs : List D) 0 = some (.str wd) := atI_nat (n := 0) rfl
  rw [S.ix, e0]
  walk_at "wp"
  have ek : (kdD (stm q t) (.str wd)).bind (fB ["str"]) = some true := rfl
  rw [ek]
  walk_at "wp"
  rw [S.ix, e0]
  walk_at "wp"
  rw [h1]
  simp only [Option.isSome_some, Bool.not_true]
  walk_at "wp"
  rw [S.ix, e0]
  walk_at "wp"
  simp only [Option.bind_some]
  rw [h1]
  walk_at "wp"
  rw [gLen_seq S]
  walk_at "wp"
  have el : gLen (stm q t) [.str sh] = some (.int sh.cps.toList.length) := by
    unfold gLen
    dsimp only
    have : sh.length = sh.cps.toList.length := (Array.length_toList).symm
    rw [this, if_pos (by omega)]
  rw [el]
  walk_at "wp"
  rw [decide_eq_true (show (((.str wd :: gs : List D).length : Nat) : Int) = sh.cps.toList.length + 1 by simp only [List.length_cons]; omega)]
  walk_at "wp"
  obtain ⟨g', eg, hg'⟩ := S.tl q _ _ rfl
  rw [eg]
  walk_at "wp"
  rw [zip_of hg']
  walk_at "wp"
  refine wpI_intro (le_line (by rw [zipD_len]; simp; omega)) ?_
  refine wp_lcB (fun rest acc s => s = stm q t ∧ (∃ cs' its' gs', rest = zipD gs' (cs'.map sg) ∧ Paired (ItOk (StepOk n)) cs' its' ∧ Paired (Lw t) gs' its') ∧ ∀ y ∈ acc, y = .bl true) ?_ ?_ ⟨rfl, ⟨_, its, gs, rfl, h2, P⟩, by simp⟩
  · rintro x rest acc s ⟨rfl, ⟨cs', its', gs', hr, hi, hp⟩, h2⟩
    refine ⟨⟨trivial, trivial⟩, ?_⟩
    cases hi with
    | nil => cases hp; cases hr
    | @cons c it cs2 its2 hc hcs =>
      cases hp with
      | @cons g2 _ gs2 _ hg hgs =>
        rw [zip_cons] at hr
        injection hr with hr1 hr2
        subst hr1 hr2
        walk_at "wp"
        rw [fits_yes hc hg]
        walk_at "wp"
        exact ⟨by trivial, ⟨cs2, its2, gs2, rfl, hcs, hgs⟩, fun y hy => by
          rcases List.mem_append.mp hy with h | h
          · exact h2 y h
          · simpa using h⟩
  · rintro acc s ⟨rfl, _, h2⟩
    refine ⟨⟨trivial, trivial⟩, ?_⟩
    walk_at "wp"
    rw [gAll_true h2]
    walk_at "wp"
    exact ⟨by trivial, by trivial⟩
/-- the lists of a listed step -/
theorem inner_lists_eq {q : Sp0} {t : Sto} {n : Nat} {g d : D} (h : StepOk (n + 1) d) (w : Lw t g d) : ∃ rs, p_inner_lists [g] (stm q t) = some (.ok (.lst rs) (stm q t)) ∧ Paired (fun r l => Lw t r (.tup l)) rs (inner d) := by
  obtain ⟨wd, sh, its, gs, rfl, h1, h2, S, P⟩ := (step_at_ h w).ex
  have hlen := pr_len h2
  have hlen2 := pr_len P
  have hsh := shape_len h1
  have key : wpR (p_inner_lists [g] (stm q t)) (fun d s' => ∃ rs, d = .lst rs ∧ s' = stm q t ∧ Paired (fun r l => Lw t r (.tup l)) rs (inner (.tup (.str wd :: its)))) (fun _ _ => False) := by
    unfold p_inner_lists
    refine wp_fn (by simp) ?_
    walk_at "wp"
    obtain ⟨g', eg, hg'⟩ := S.tl q _ _ rfl
    rw [eg]
    walk_at "wp"
    have e0 : atI (.str wd :: gs : List D) 0 = some (.str wd) := atI_nat (n := 0) rfl
    rw [S.ix, e0]
    walk_at "wp"
    simp only [Option.bind_some]
    rw [h1]
    walk_at "wp"
    rw [zip_of hg']
    walk_at "wp"
    refine wpI_intro (le_line (by rw [zipD_len]; simp; omega)) ?_
    rw [inner_mk h1 rfl]
    refine wp_lcB (fun rest acc s => s = stm q t ∧ ∃ cs' its' gs' pre, rest = zipD gs' (cs'.map sg) ∧ Paired (ItOk (StepOk n)) cs' its' ∧ Paired (Lw t) gs' its' ∧ Paired (fun r l => Lw t r (.tup l)) acc pre ∧ pre ++ lstsOf cs' its' = lstsOf sh.cps.toList its) ?_ ?_ ⟨rfl, _, its, gs, [], rfl, h2, P, .nil, rfl⟩
    · rintro x rest acc s ⟨rfl, cs', its', gs', pre, hr, hi, hp, hacc, hpre⟩
      refine ⟨⟨trivial, trivial⟩, ?_⟩
      cases hi with
      | nil => cases hp; cases hr
      | @cons c it cs2 its2 hc hcs =>
        cases hp with
        | @cons g2 _ gs2 _ hg hgs =>
          rw [zip_cons] at hr
          injection hr with hr1 hr2
          subst hr1 hr2
          walk_at "wp"
          rw [k_l hc.lt]
          walk_at "wp"
          refine wpB_dec (fun e => ?_) (fun e => ?_)
          · subst e
            cases hc with
            | @l ss hss =>
              walk_at "wp"
              refine ⟨by trivial, cs2, its2, gs2, pre ++ [ss], rfl, hcs, hgs, Paired.snoc hacc hg, ?_⟩
              rw [← hpre]
              simp [lstsOf]
          · refine ⟨rfl, cs2, its2, gs2, pre, rfl, hcs, hgs, hacc, ?_⟩
            rw [← hpre]
            simp [lstsOf, e]
    · rintro acc s ⟨rfl, cs', its', gs', pre, hr, hi, hp, hacc, hpre⟩
      refine ⟨⟨trivial, trivial⟩, ?_⟩
      have : lstsOf cs' its' = [] := by
        cases hi with
        | nil => rfl
        | cons _ _ => cases hp with
          | cons _ _ => cases hr
      rw [this, List.append_nil] at hpre
      subst hpre
      exact ⟨acc, rfl, rfl, hacc⟩
  obtain ⟨d, s', e, rs, rfl, rfl, hp⟩ := wpR_get key
  exact ⟨rs, e, hp⟩
end MP

set_option Elab.async false
set_option linter.all false
set_option maxRecDepth 100000
set_option maxHeartbeats 8000000
/-! PP3: nothing bad, frozen -/
namespace MP
open PySem L2
local macro_rules | `(tactic| walk_at "wp") => `(tactic| try simp only [↓wp_mSeq, ↓wp_mNext, ↓wp_mBrk, ↓wp_mCnt, ↓wp_mExpr, ↓wp_mRet, ↓wp_mRetN, ↓wp_mIf, ↓wp_mSet, ↓wp_mPar, ↓wp_mPar3, ↓wp_mAsg, ↓wp_mFor, ↓wp_mDPut, ↓wp_mFldSet, ↓wp_mVar, ↓wp_mC, ↓wp_mOp, ↓wp_mUn, ↓wp_mNil, ↓wp_mCons, ↓wp_mStar, ↓wp_mTup, ↓wp_mLst, ↓wp_mLstB, ↓wp_mIfE, ↓wp_mTst, ↓wp_mNot, ↓wp_mAnd, ↓wp_mOr, ↓wp_mAndV, ↓wp_mOrV, ↓wp_mNotV, ↓wp_mChain, ↓wp_mCall, ↓wp_mCallB, ↓wpO_pu, ↓wp_mBm, ↓wp_mBm0, ↓wp_moN, ↓wp_moS, ↓wp_mSl, ↓wp_mIsi, ↓wp_mTab, ↓wp_mTabIn, ↓wp_mTabNotIn, ↓wp_mDGet, ↓wp_mDGet2, ↓wp_mDNew, ↓wp_mSortSet, ↓wp_mSortSetB, ↓wp_mLenSet, ↓wp_mFrz, ↓wp_mFld, ↓wp_mMeth, ↓wp_mMake, ↓wp_mLenO, ↓wp_mEqO, ↓wp_mNeO, ↓wp_mLc, ↓wp_mLcB, ↓wp_miSeq, ↓wp_miRng, ↓wp_miZip, ↓wp_miEnum, ↓wp_gmName, ↓wp_gmNil, ↓wp_gmCons, ↓wp_gmTup, ↓wp_gmSub, ↓wp_mYes, ↓wpR_ok, wpO_some, wpB_true, wpB_false, wpB_not, wpI_true, asB_bl, asI_int, asT_tup, asS_str, two_two, three_three, isNon_non, cI_int, pad, wipeE, List.getElem?_cons_zero, List.getElem?_cons_succ, List.set_cons_zero, List.set_cons_succ, fAdd_int, fSub_int, fLt_int, fLe_int, fGt_int, fGe_int, fEq_int, fNe_int, fNeg_int, stm_ix0, stm_ix1, stm_ix2, stm_ix3, stm_set1, stm_set2, stm_set3, stm_ne, stm_tyL0, gInt_int, tyS_str, stm_len, stm_app])
def enumF : Nat → List D → List D
  | _, [] => []
  | k, x :: xs => .tup [.int (k : Int), x] :: enumF (k + 1) xs
theorem enumF_eq : ∀ (k : Nat) (xs : List D), (List.range' k xs.length).zipWith (fun (i : Nat) x => D.tup [.int (i : Int), x]) xs = enumF k xs
  | _, [] => rfl
  | k, x :: xs => by
    rw [List.length_cons, List.range'_succ, List.zipWith_cons_cons, enumF_eq (k + 1) xs]
    rfl
theorem enumD_eq (xs : List D) : enumD xs = enumF 0 xs := by
  unfold enumD
  rw [List.range_eq_range']
  exact enumF_eq 0 xs
theorem enumF_nil {k : Nat} {xs : List D} (h : [] = enumF k xs) : xs = [] := by
  cases xs with
  | nil => rfl
  | cons _ _ => cases h
theorem enumF_cons {k : Nat} {x : D} {rest xs : List D} (h : x :: rest = enumF k xs) : ∃ y ys, xs = y :: ys ∧ x = .tup [.int (k : Int), y] ∧ rest = enumF (k + 1) ys := by
  cases xs with
  | nil => cases h
  | cons y ys =>
    injection h with h1 h2
    exact ⟨y, ys, rfl, h1, h2⟩
theorem enum_seq {q : Sp0} {t : Sto} {g : D} {gs : List D} (S : Seq t g gs) : ∃ G, enum? (stm q t) [g] = some (enumF 0 gs, G) ∧ ∀ (q' : Sp0) (t' : Sto), (∀ (i : Nat) (o : Ob), t[i]? = some o → t'[i]? = some o) → G (stm q' t') := by
  obtain ⟨G, e, h⟩ := S.seq q
  refine ⟨G, ?_, h⟩
  unfold enum?
  dsimp only
  rw [e, Option.map_some, enumD_eq]
theorem enum_lst {s : Sto} {rs : List D} : enum? s [.lst rs] = some (enumF 0 rs, any_) := by
  show some (enumD rs, any_) = _
  rw [enumD_eq]
theorem fNotN_non {s : Sto} : fNotN s .non .non = some (.bl false) := rfl
theorem pr_mem {α β : Type} {R : α → β → Prop} : ∀ {xs : List α} {ys : List β}, Paired R xs ys → ∀ x ∈ xs, ∃ y ∈ ys, R x y
  | _, _, .nil, x, h => by cases h
  | _, _, .cons h r, x, hx => by
    rcases List.mem_cons.mp hx with rfl | hx
    · exact ⟨_, List.mem_cons_self, h⟩
    · obtain ⟨y, hy, hr⟩ := pr_mem r x hx
      exact ⟨y, List.mem_cons_of_mem _ hy, hr⟩
theorem lsts_ok {S : D → Prop} : ∀ {cs : List Nat} {its : List D}, Paired (ItOk S) cs its → ∀ l ∈ lstsOf cs its, ∀ x ∈ l, S x
  | _, _, .nil, l, h => by simp [lstsOf] at h
  | _, _, .cons (a := c) (b := d) hc r, l, h => by
    rw [show lstsOf (c :: _) (d :: _) = (if c = 108 then (match d with | .tup l => [l] | _ => []) else []) ++ lstsOf _ _ from rfl] at h
    rcases List.mem_append.mp h with h | h
    · by_cases e : c = 108
      · subst e
        cases hc with
        | @l ss hss =>
          have : l = ss := by simpa using h
          rw [this]; exact hss
      · rw [if_neg e] at h; cases h
    · exact lsts_ok r l h
theorem inner_ok {n : Nat} {d : D} (h : StepOk (n + 1) d) : ∀ l ∈ inner d, ∀ x ∈ l, StepOk n x := by
  obtain ⟨w, sh, its, rfl, h1, h2⟩ := h
  rw [inner_mk h1 rfl]
  exact lsts_ok h2
theorem first_bad_none : ∀ (n N : Nat), n < N → ∀ {q : Sp0} {t : Sto} {g : D} {ds path : List D}, (∀ d ∈ ds, StepOk n d) → Lw t g (.tup ds) → path.length + 2 * n ≤ 900 → p_first_bad N [g, .tup path] (stm q t) = some (.ok .non (stm q t)) := by
  intro n
  induction n with
  | zero =>
    intro N hN q t g ds path hds hw hp
    obtain ⟨N, rfl⟩ : ∃ M, N = M + 1 := ⟨N - 1, by omega⟩
    have : ds = [] := by
      cases ds with
      | nil => rfl
      | cons d ds => exact (hds d List.mem_cons_self).elim
    subst this
    obtain ⟨gs, S, P⟩ := hw.seq
    cases P
    refine eq_of_wp ?_
    unfold p_first_bad
    refine wp_fn (by simp) ?_
    walk_at "wp"
    obtain ⟨G, e, hG⟩ := enum_seq (q := q) S
    rw [e]
    walk_at "wp"
    refine wp_for (fun rest ρ s => rest = [] ∧ s = stm q t) (fun d ds ρ s h => by cases h.1) (fun ρ s h => ?_) ⟨rfl, rfl⟩
    obtain ⟨_, rfl⟩ := h
    refine ⟨hG q t fun _ _ h => h, ?_⟩
    walk_at "wp"
    exact ⟨by trivial, by trivial⟩
  | succ n ih =>
    intro N hN q t g ds path hds hw hp
    obtain ⟨N, rfl⟩ : ∃ M, N = M + 1 := ⟨N - 1, by omega⟩
    obtain ⟨gs, S, P⟩ := hw.seq
    refine eq_of_wp ?_
    unfold p_first_bad
    refine wp_fn (by simp) ?_
    walk_at "wp"
    obtain ⟨G, e, hG⟩ := enum_seq (q := q) S
    rw [e]
    walk_at "wp"
    refine wp_for (fun rest ρ s => s = stm q t ∧ ∃ (k : Nat) (gs' : List D) (o2 o3 o4 o5 o6 o7 : Option D), ρ = [some g, some (.tup path), o2, o3, o4, o5, o6, o7] ∧ rest = enumF k gs' ∧ ∀ x ∈ gs', ∃ d, StepOk (n + 1) d ∧ Lw t x d) ?_ ?_ ⟨rfl, 0, gs, none, none, none, none, none, none, rfl, rfl, fun x hx => ?_⟩
    · rintro x rest ρ s ⟨rfl, k, gs', o2, o3, o4, o5, o6, o7, rfl, hr, hgs⟩
      refine ⟨hG q t fun _ _ h => h, ?_⟩
      obtain ⟨y, ys, rfl, rfl, rfl⟩ := enumF_cons hr
      obtain ⟨d, hd, hy⟩ := hgs y List.mem_cons_self
      walk_at "wp"
      have ei : items? (stm q t) (.tup path) = some path := rfl
      rw [ei]
      walk_at "wp"
      refine wpI_intro (le_line (by simp; omega)) ?_
      walk_at "wp"
      rw [is_step_yes hd hy]
      walk_at "wp"
      obtain ⟨rs, er, hrs⟩ := inner_lists_eq (q := q) hd hy
      rw [er]
      walk_at "wp"
      rw [enum_lst]
      walk_at "wp"
      refine wp_for (fun rest ρ s => s = stm q t ∧ ∃ (j : Nat) (rs' : List D) (o5 o6 o7 : Option D), ρ = [some g, some (.tup path), some (.int (k : Int)), some y, some (.tup (path ++ [.int (k : Int)])), o5, o6, o7] ∧ rest = enumF j rs' ∧ ∀ r ∈ rs', r ∈ rs) ?_ ?_ ⟨rfl, 0, rs, o5, o6, o7, rfl, rfl, fun _ h => h⟩
      · rintro x rest ρ s ⟨rfl, j, rs', p5, p6, p7, rfl, hr, hsub⟩
        refine ⟨trivial, ?_⟩
        obtain ⟨r, rs2, rfl, rfl, rfl⟩ := enumF_cons hr
        obtain ⟨l, hl, hw⟩ := pr_mem hrs r (hsub r List.mem_cons_self)
        walk_at "wp"
        have ei : items? (stm q t) (.tup (path ++ [.int (k : Int)])) = some (path ++ [.int (k : Int)]) := rfl
        rw [ei]
        walk_at "wp"
        refine wpI_intro (le_line (by simp; omega)) ?_
        walk_at "wp"
        rw [ih N (by omega) (inner_ok hd l hl) hw (by simp; omega)]
        walk_at "wp"
        rw [fNotN_non]
        walk_at "wp"
        exact ⟨by trivial, j + 1, rs2, _, _, _, rfl, rfl, fun y hy => hsub y (List.mem_cons_of_mem _ hy)⟩
      · rintro ρ s ⟨rfl, j, rs', p5, p6, p7, rfl, hr, hsub⟩
        exact ⟨trivial, rfl, k + 1, ys, _, _, _, _, _, _, rfl, rfl, fun y hy => hgs y (List.mem_cons_of_mem _ hy)⟩
    · rintro ρ s ⟨rfl, k, gs', o2, o3, o4, o5, o6, o7, rfl, hr, hgs⟩
      refine ⟨hG q t fun _ _ h => h, ?_⟩
      walk_at "wp"
      exact ⟨by trivial, by trivial⟩
    · obtain ⟨d, hd, hy⟩ := pr_mem P x hx
      exact ⟨d, hds d hd, hy⟩
/-- the store has grown -/
structure Ex (t t' : Sto) : Prop where
  len : t.length ≤ t'.length
  at_ : ∀ i, i < t.length → t'[i]? = t[i]?
theorem Ex.refl {t : Sto} : Ex t t := ⟨Nat.le_refl _, fun _ _ => rfl⟩
theorem Ex.trans {t t1 t2 : Sto} (a : Ex t t1) (b : Ex t1 t2) : Ex t t2 := ⟨Nat.le_trans a.len b.len, fun i h => by rw [b.at_ i (Nat.lt_of_lt_of_le h a.len), a.at_ i h]⟩
theorem Ex.app {t u : Sto} : Ex t (t ++ u) := ⟨by simp, fun i h => List.getElem?_append_left h⟩
theorem Ex.keep {t t' : Sto} (e : Ex t t') : ∀ (i : Nat) (o : Ob), t[i]? = some o → t'[i]? = some o := fun i o h => by
  rw [e.at_ i (List.getElem?_eq_some_iff.mp h).1]; exact h
theorem Ex.set {t t' : Sto} (e : Ex t t') {k : Nat} (hk : t.length ≤ k) {o : Ob} : Ex t (t'.set k o) := ⟨by simp; exact e.len, fun i h => by rw [List.getElem?_set_ne (by omega)]; exact e.at_ i h⟩
theorem all_mem {n : Nat} {d : D} {ds : List D} (h : d ∈ ds) : (allS (n + 1) [d]).length ≤ (allS (n + 1) ds).length := by
  obtain ⟨a, b, rfl⟩ := List.append_of_mem h
  rw [show a ++ d :: b = a ++ ([d] ++ b) from rfl, allS_app, allS_app, List.length_append, List.length_append]
  omega
theorem all_inner {n : Nat} {d : D} {l : List D} (h : l ∈ inner d) : (allS n l).length ≤ (allS (n + 1) [d]).length := by
  rw [allS_one]
  obtain ⟨a, b, e⟩ := List.append_of_mem h
  rw [e]
  simp
  omega
theorem all_len : ∀ {n : Nat} {ds : List D}, ds.length ≤ (allS (n + 1) ds).length
  | _, [] => Nat.zero_le _
  | n, d :: ds => by
    have := all_len (n := n) (ds := ds)
    rw [show d :: ds = [d] ++ ds from rfl, allS_app, List.length_append, List.length_append, allS_one]
    simp
    omega
def FrozenSpec (n N : Nat) : Prop := ∀ {q : Sp0} {t : Sto} {g : D} {ds : List D} {Q : D → Sto → Prop} {E : XP}, (∀ d ∈ ds, StepOk n d) → Lw t g (.tup ds) → (allS n ds).length ≤ 1000 → (∀ t', Ex t t' → Q (.tup ds) (stm q t')) → wpR (p_frozen N [g] (stm q t)) Q E
def FStepSpec (n N : Nat) : Prop := ∀ {q : Sp0} {t : Sto} {g d : D} {Q : D → Sto → Prop} {E : XP}, StepOk (n + 1) d → Lw t g d → (allS (n + 1) [d]).length ≤ 1000 → (∀ t', Ex t t' → Q d (stm q t')) → wpR (p_frozen_step N [g] (stm q t)) Q E
theorem fstep_of {n N : Nat} (Fz : FrozenSpec n N) : FStepSpec n (N + 1) := by
  intro q t g d Q E h w hcnt hQ
  have hstep := h
  obtain ⟨wd, sh, its, gs, rfl, h1, h2, S, P⟩ := (step_at_ h w).ex
  have hlen := pr_len h2
  have hlen2 := pr_len P
  have hsh := shape_len h1
  have T : ∀ {p : Prop} [Decidable p], p → decide p = true := fun h => decide_eq_true h
  have F : ∀ {p : Prop} [Decidable p], ¬ p → decide p = false := fun h => decide_eq_false h
  unfold p_frozen_step
  refine wp_fn (by simp) ?_
  walk_at "wp"
  refine wpI_intro (le_line (by simp)) ?_
  walk_at "wp"
  have S1 : Seq (t ++ [.lst []]) g (.str wd :: gs) := S.keep app_keep
  obtain ⟨g', eg, hg'⟩ := S1.tl q _ _ rfl
  rw [eg]
  walk_at "wp"
  have e0 : atI (.str wd :: gs : List D) 0 = some (.str wd) := atI_nat (n := 0) rfl
  rw [S1.ix, e0]
  walk_at "wp"
  simp only [Option.bind_some]
  rw [h1]
  walk_at "wp"
  rw [zip_of hg']
  walk_at "wp"
  refine wp_for (fun rest ρ s => ∃ (t2 : Sto) (cs' : List Nat) (its' gs' don : List D) (o2 o3 : Option D), ρ = [some g, some (.ref (t.length + 2)), o2, o3] ∧ s = stm q t2 ∧ Ex t t2 ∧ t2[t.length]? = some (.lst don) ∧ rest = zipD gs' (cs'.map sg) ∧ Paired (ItOk (StepOk n)) cs' its' ∧ Paired (Lw t) gs' its' ∧ don ++ its' = its ∧ ∀ l ∈ lstsOf cs' its', l ∈ inner (.tup (.str wd :: its))) ?_ ?_
    ⟨t ++ [.lst []], _, its, gs, [], none, none, rfl, rfl, Ex.app, last_get, rfl, h2, P, rfl, fun l hl => by rw [inner_mk h1 rfl]; exact hl⟩
  · rintro x rest ρ s ⟨t2, cs', its', gs', don, o2, o3, rfl, rfl, ex, hbox, hr, hi, hp, hdon, hsub⟩
    refine ⟨⟨trivial, trivial⟩, ?_⟩
    cases hi with
    | nil => cases hp; cases hr
    | @cons c it cs2 its2 hc hcs =>
      cases hp with
      | @cons g2 _ gs2 _ hg hgs =>
        rw [zip_cons] at hr
        injection hr with hr1 hr2
        subst hr1 hr2
        have hdl : don.length ≤ 1000 := by
          have := congrArg List.length hdon
          simp at this
          omega
        have nextInv : ∀ (t3 : Sto), Ex t2 t3 → ∃ (t4 : Sto) (cs' : List Nat) (its' gs' don' : List D) (p2 p3 : Option D), [some g, some (D.ref (t.length + 2)), some g2, some (sg c)] = [some g, some (.ref (t.length + 2)), p2, p3] ∧ stm q (t3.set t.length (.lst (don ++ [it]))) = stm q t4 ∧ Ex t t4 ∧ t4[t.length]? = some (.lst don') ∧ zipD gs2 (cs2.map sg) = zipD gs' (cs'.map sg) ∧ Paired (ItOk (StepOk n)) cs' its' ∧ Paired (Lw t) gs' its' ∧ don' ++ its' = its ∧ ∀ l ∈ lstsOf cs' its', l ∈ inner (.tup (.str wd :: its)) := fun t3 e3 => by
          have hb3 := e3.keep _ _ hbox
          have hlt := (List.getElem?_eq_some_iff.mp hb3).1
          refine ⟨_, cs2, its2, gs2, don ++ [it], _, _, rfl, rfl, (ex.trans e3).set (Nat.le_refl _), by rw [List.getElem?_set_self hlt], rfl, hcs, hgs, by rw [← hdon]; simp, fun l hl => hsub l ?_⟩
          rw [show lstsOf (c :: cs2) (it :: its2) = (if c = 108 then (match it with | .tup l => [l] | _ => []) else []) ++ lstsOf cs2 its2 from rfl]
          exact List.mem_append_right _ hl
        walk_at "wp"
        rw [k_l hc.lt]
        walk_at "wp"
        refine wpB_dec (fun e => ?_) (fun e => ?_)
        · subst e
          cases hc with
          | @l ss hss =>
            walk_at "wp"
            rw [tyL_stm hbox]
            walk_at "wp"
            have hin : ss ∈ inner (.tup (.str wd :: its)) := hsub ss (by simp [lstsOf])
            refine Fz hss (hg.keep ex.keep) (Nat.le_trans (all_inner hin) hcnt) fun t3 e3 => ?_
            walk_at "wp"
            rw [app_stm (e3.keep _ _ hbox) (by omega)]
            walk_at "wp"
            exact nextInv t3 e3
        · walk_at "wp"
          rw [k_h hc.lt]
          walk_at "wp"
          refine wpB_dec (fun e' => ?_) (fun e' => ?_)
          · subst e'
            cases hc with
            | @h zs z1 z2 z3 =>
              walk_at "wp"
              rw [tyL_stm hbox]
              walk_at "wp"
              obtain ⟨hs, Sh, Ph⟩ := (hg.keep ex.keep).seq
              have eh := Lw.strs Ph
              have e5 : gTuple (stm q t2) [g2] = some (.tup (zs.map .str)) := by
                unfold gTuple
                dsimp only
                rw [Sh.items, eh]
                rfl
              rw [e5]
              walk_at "wp"
              rw [app_stm hbox (by omega)]
              walk_at "wp"
              exact nextInv t2 Ex.refl
          · have hit : g2 = it := by
              cases hc with
              | l _ => exact absurd rfl e
              | h _ _ _ => exact absurd rfl e'
              | w _ => exact hg.str
              | c _ => exact hg.str
              | f _ _ => exact hg.str
              | n _ => exact hg.int
              | t _ _ => exact hg.int
            subst hit
            walk_at "wp"
            rw [tyL_stm hbox]
            walk_at "wp"
            rw [app_stm hbox (by omega)]
            walk_at "wp"
            exact nextInv t2 Ex.refl
  · rintro ρ s ⟨t2, cs', its', gs', don, o2, o3, rfl, rfl, ex, hbox, hr, hi, hp, hdon, hsub⟩
    refine ⟨⟨trivial, trivial⟩, ?_⟩
    have hn : its' = [] := by
      cases hi with
      | nil => rfl
      | cons _ _ => cases hp with
        | cons _ _ => cases hr
    subst hn
    rw [List.append_nil] at hdon
    subst hdon
    walk_at "wp"
    rw [(S.keep ex.keep).ix, e0]
    walk_at "wp"
    rw [items_stm hbox]
    walk_at "wp"
    refine wpI_intro (le_line (by simp; omega)) ?_
    rw [List.append_nil]
    exact hQ t2 ex
theorem frozen_of {n N : Nat} (Fs : FStepSpec n N) : FrozenSpec (n + 1) (N + 1) := by
  intro q t g ds Q E h w hcnt hQ
  obtain ⟨gs, S, P⟩ := w.seq
  have hlen := pr_len P
  have hl := all_len (n := n) (ds := ds)
  unfold p_frozen
  refine wp_fn (by simp) ?_
  walk_at "wp"
  obtain ⟨G, es, hG⟩ := S.seq q
  rw [es]
  walk_at "wp"
  refine wpI_intro (le_line (by omega)) ?_
  refine wp_lcB (fun rest acc s => ∃ (t2 : Sto) (rd : List D), s = stm q t2 ∧ Ex t t2 ∧ Paired (Lw t) rest rd ∧ acc ++ rd = ds) ?_ ?_ ⟨t, ds, rfl, Ex.refl, P, rfl⟩
  · rintro x rest acc s ⟨t2, rd, rfl, ex, hp, hacc⟩
    refine ⟨hG q t2 ex.keep, ?_⟩
    cases hp with
    | @cons _ d _ rd' hx hr =>
      have hd : d ∈ ds := by rw [← hacc]; simp
      walk_at "wp"
      refine Fs (h d hd) (hx.keep ex.keep) (Nat.le_trans (all_mem hd) hcnt) fun t3 e3 => ?_
      exact ⟨t3, rd', rfl, ex.trans e3, hr, by rw [← hacc]; simp⟩
  · rintro acc s ⟨t2, rd, rfl, ex, hp, hacc⟩
    refine ⟨hG q t2 ex.keep, ?_⟩
    cases hp
    rw [List.append_nil] at hacc
    subst hacc
    walk_at "wp"
    have e5 : ∀ s, gTuple s [.lst acc] = some (.tup acc) := fun s => rfl
    rw [e5]
    walk_at "wp"
    exact hQ t2 ex
theorem frozen_zero {N : Nat} : FrozenSpec 0 (N + 1) := by
  intro q t g ds Q E h w hcnt hQ
  have : ds = [] := by
    cases ds with
    | nil => rfl
    | cons d ds => exact (h d List.mem_cons_self).elim
  subst this
  obtain ⟨gs, S, P⟩ := w.seq
  cases P
  unfold p_frozen
  refine wp_fn (by simp) ?_
  walk_at "wp"
  obtain ⟨G, es, hG⟩ := S.seq q
  rw [es]
  walk_at "wp"
  refine wpI_intro (le_line (by simp)) ?_
  refine wp_lcB (fun rest acc s => s = stm q t ∧ rest = [] ∧ acc = []) (fun d ds acc s h => by cases h.2.1) (fun acc s h => ?_) ⟨rfl, rfl, rfl⟩
  obtain ⟨rfl, _, rfl⟩ := h
  refine ⟨hG q t fun _ _ h => h, ?_⟩
  walk_at "wp"
  have e5 : ∀ s, gTuple s [.lst []] = some (.tup []) := fun s => rfl
  rw [e5]
  walk_at "wp"
  exact hQ t Ex.refl
theorem wp_frozen : ∀ n N : Nat, 2 * n + 1 ≤ N → FrozenSpec n N
  | 0, N, h => by
    obtain ⟨M, rfl⟩ : ∃ M, N = M + 1 := ⟨N - 1, by omega⟩
    exact frozen_zero
  | n + 1, N, h => by
    obtain ⟨M, rfl⟩ : ∃ M, N = M + 2 := ⟨N - 2, by omega⟩
    exact frozen_of (fstep_of (wp_frozen n M (by omega)))
/-- a part at an address: its steps -/
def PartAt (t : Sto) (k : Nat) (ds : List D) : Prop := t[k]? = some (.ins "Part" [("frozen_steps", .tup ds)])
theorem wp_init {q : Sp0} {t : Sto} {g : D} {ds : List D} {k n : Nat} {Q : D → Sto → Prop} {E : XP} (hn : n ≤ 9) (hk : t[k]? = some (.ins "Part" [])) (h : ∀ d ∈ ds, StepOk n d) (w : Lw t g (.tup ds)) (hcnt : (allS n ds).length ≤ 1000)
    (hQ : ∀ t', t.length ≤ t'.length → (∀ i, i < t.length → i ≠ k → t'[i]? = t[i]?) → PartAt t' k ds → Q .non (stm q t')) : wpR (c_Part_init [.ref (k + 2), g] (stm q t)) Q E := by
  unfold c_Part_init
  refine wp_fn (by simp) ?_
  walk_at "wp"
  refine wpI_intro (le_line (by simp)) ?_
  walk_at "wp"
  rw [first_bad_none n 20 (by omega) h w (by simp; omega)]
  walk_at "wp"
  rw [fNotN_non]
  walk_at "wp"
  refine wp_frozen n 20 (by omega) h w hcnt fun t2 ex => ?_
  walk_at "wp"
  have hk2 := ex.keep _ _ hk
  have hlt := (List.getElem?_eq_some_iff.mp hk).1
  have hlt2 := (List.getElem?_eq_some_iff.mp hk2).1
  have ei : ins? (stm q t2) "Part" (.ref (k + 2)) = some (k + 2, []) := by
    unfold ins?
    dsimp only
    rw [stm_get, hk2]
    dsimp only
    rw [if_pos rfl]
  have ef : fput? (stm q t2) "Part" "frozen_steps" (.ref (k + 2)) (.tup ds) = some (stm q (t2.set k (.ins "Part" [("frozen_steps", .tup ds)]))) := by
    unfold fput?
    rw [ei, Option.bind_some]
    dsimp only
    rw [if_pos (by simp), stm_upd]
    rfl
  rw [ef]
  walk_at "wp"
  exact hQ _ (by simp; exact ex.len) (fun i h1 h2 => by rw [List.getElem?_set_ne (Ne.symm h2)]; exact ex.at_ i h1) (by unfold PartAt; rw [List.getElem?_set_self hlt2])
end MP

set_option Elab.async false
set_option linter.all false
set_option maxRecDepth 100000
set_option maxHeartbeats 8000000
/-! PP4: shapes, lists, all steps of frozen steps -/
namespace MP
open PySem L2
local macro_rules | `(tactic| walk_at "wp") => `(tactic| try simp only [↓wp_mSeq, ↓wp_mNext, ↓wp_mBrk, ↓wp_mCnt, ↓wp_mExpr, ↓wp_mRet, ↓wp_mRetN, ↓wp_mIf, ↓wp_mSet, ↓wp_mPar, ↓wp_mPar3, ↓wp_mAsg, ↓wp_mFor, ↓wp_mDPut, ↓wp_mFldSet, ↓wp_mVar, ↓wp_mC, ↓wp_mOp, ↓wp_mUn, ↓wp_mNil, ↓wp_mCons, ↓wp_mStar, ↓wp_mTup, ↓wp_mLst, ↓wp_mLstB, ↓wp_mIfE, ↓wp_mTst, ↓wp_mNot, ↓wp_mAnd, ↓wp_mOr, ↓wp_mAndV, ↓wp_mOrV, ↓wp_mNotV, ↓wp_mChain, ↓wp_mCall, ↓wp_mCallB, ↓wpO_pu, ↓wp_mBm, ↓wp_mBm0, ↓wp_moN, ↓wp_moS, ↓wp_mSl, ↓wp_mIsi, ↓wp_mTab, ↓wp_mTabIn, ↓wp_mTabNotIn, ↓wp_mDGet, ↓wp_mDGet2, ↓wp_mDNew, ↓wp_mSortSet, ↓wp_mSortSetB, ↓wp_mLenSet, ↓wp_mFrz, ↓wp_mFld, ↓wp_mMeth, ↓wp_mMake, ↓wp_mLenO, ↓wp_mEqO, ↓wp_mNeO, ↓wp_mLc, ↓wp_mLcB, ↓wp_miSeq, ↓wp_miRng, ↓wp_miZip, ↓wp_miEnum, ↓wp_gmName, ↓wp_gmNil, ↓wp_gmCons, ↓wp_gmTup, ↓wp_gmSub, ↓wp_mYes, ↓wpR_ok, wpO_some, wpB_true, wpB_false, wpB_not, wpI_true, asB_bl, asI_int, asT_tup, asS_str, two_two, three_three, isNon_non, cI_int, pad, wipeE, List.getElem?_cons_zero, List.getElem?_cons_succ, List.set_cons_zero, List.set_cons_succ, fAdd_int, fSub_int, fLt_int, fLe_int, fGt_int, fGe_int, fEq_int, fNe_int, fNeg_int, stm_ix0, stm_ix1, stm_ix2, stm_ix3, stm_set1, stm_set2, stm_set3, stm_ne, stm_tyL0, gInt_int, tyS_str, stm_len, stm_app])
theorem mVals_const {ρ : Env} : ∀ (ms : List (Str × D)) (s : Sto), mVals (ms.map fun p => (p.1, mC p.2)) ρ s = some (.ok (ms.map (·.2)) s)
  | [], s => rfl
  | p :: ms, s => by
    have ih := mVals_const (ρ := ρ) ms s
    show bnd (mC p.2 ρ s) (fun x s => bnd (mVals (ms.map fun p => (p.1, mC p.2)) ρ s) fun xs s => some (.ok (x :: xs) s)) = _
    show bnd (mVals (ms.map fun p => (p.1, mC p.2)) ρ s) (fun xs s => some (.ok (p.2 :: xs) s)) = _
    rw [ih]
    rfl
theorem mergeD_new : ∀ {more acc : List (Key × D)}, ((acc ++ more).map (·.1)).Nodup → mergeD acc more = acc ++ more
  | [], acc, _ => by simp [mergeD]
  | kv :: more, acc, h => by
    have hk : ∀ e ∈ acc, e.1 ≠ kv.1 := fun e he heq => by
      rw [List.map_append, List.map_cons, List.nodup_append] at h
      exact h.2.2 e.1 (List.mem_map_of_mem he) kv.1 List.mem_cons_self heq
    have h2 : (((acc ++ [kv]) ++ more).map (·.1)).Nodup := by simpa using h
    have ih := mergeD_new (more := more) (acc := acc ++ [kv]) h2
    unfold mergeD at ih ⊢
    rw [List.foldl_cons, putD_new hk, ih]
    simp
theorem wp_mDLit {ms : List (Str × D)} {ρ : Env} {q : Sp0} {t : Sto} {Q : D → Sto → Prop} {E : XP} (hn : (ms.map (·.1)).Nodup) (h : Q (.ref (t.length + 2)) (stm q (t ++ [.dct (ms.map fun p => (.inr p.1, p.2))]))) : wpR (mDLit (ms.map fun p => (p.1, mC p.2)) ρ (stm q t)) Q E := by
  unfold mDLit
  rw [mVals_const, bnd_ok, stm_app, stm_len, stm_get, last_get]
  dsimp only
  rw [wpR_ok, stm_upd, last_set]
  have e : (((ms.map fun p => (p.1, mC p.2)).map fun p => (Sum.inr p.1 : Key)).zip (ms.map (·.2))) = ms.map fun p => ((Sum.inr p.1 : Key), p.2) := by
    rw [List.map_map]
    clear h hn
    induction ms with
    | nil => rfl
    | cons p ms ih => simp only [List.map_cons, List.zip_cons_cons, ih]; rfl
  rw [e, mergeD_new, List.nil_append]
  · exact h
  · rw [List.nil_append, List.map_map]
    have : ((fun p => p.1) ∘ fun p : Str × D => ((Sum.inr p.1 : Key), p.2)) = fun p : Str × D => (Sum.inr p.1 : Key) := rfl
    rw [this]
    have e2 : (ms.map fun p : Str × D => (Sum.inr p.1 : Key)) = (ms.map (·.1)).map Sum.inr := by rw [List.map_map]; rfl
    rw [e2]
    exact List.Pairwise.map _ (fun a b hab heq => hab (Sum.inr.inj heq)) hn
def sh1 : List (Str × D) := [("say", .str "w"), ("set", .str "cn"), ("add", .str "cn"), ("copy", .str "ccn"), ("less", .str "cnll"), ("below", .str "ccnll"), ("times", .str "tl")]
def sh2 : List (Str × D) := [("fault", .str "f"), ("catch", .str "fhll"), ("last", .str "ll"), ("back", .str ""), ("either", .str "hll"), ("whether", .str "hlll"), ("each", .str "hll")]
def asK (l : List (Str × D)) : List (Key × D) := l.map fun p => (.inr p.1, p.2)
theorem lookup_mem {w sh : Str} : ∀ {l : List (Str × Str)}, l.lookup w = some sh → (w, sh) ∈ l
  | [], h => by cases h
  | (a, b) :: l, h => by
    rw [List.lookup_cons] at h
    cases e : w == a with
    | true =>
      rw [e] at h
      have := beq_iff_eq.mp e
      subst this
      cases h
      exact List.mem_cons_self
    | false =>
      rw [e] at h
      exact List.mem_cons_of_mem _ (lookup_mem h)
def shDef (w : Str) : D := if w = Str.ofString "hole" then .str "" else .non
theorem shape_val {w sh : Str} (h : T_SHAPES.lookup w = some sh) : (getK (asK sh1) (.inr w)).getD ((getK (asK sh2) (.inr w)).getD (shDef w)) = .str sh ∧ PyData.strOk w = true := by
  have hm := lookup_mem h
  have key : ∀ p ∈ T_SHAPES, (p.1.cps.toList.all (fun c => decide (c < 1114112)) = true) := by decide
  refine ⟨?_, strOk_of (key _ hm)⟩
  clear key h
  simp only [T_SHAPES, List.mem_cons, List.mem_nil_iff, or_false, Prod.mk.injEq] at hm
  rcases hm with ⟨rfl, rfl⟩ | ⟨rfl, rfl⟩ | ⟨rfl, rfl⟩ | ⟨rfl, rfl⟩ | ⟨rfl, rfl⟩ | ⟨rfl, rfl⟩ | ⟨rfl, rfl⟩ | ⟨rfl, rfl⟩ | ⟨rfl, rfl⟩ | ⟨rfl, rfl⟩ | ⟨rfl, rfl⟩ | ⟨rfl, rfl⟩ | ⟨rfl, rfl⟩ | ⟨rfl, rfl⟩ | ⟨rfl, rfl⟩ <;> rfl
theorem dct_stm {q : Sp0} {t : Sto} {g : Nat} {L : List (Key × D)} (h : t[g]? = some (.dct L)) : dct? (stm q t) (.ref (g + 2)) = some L := by
  unfold dct?
  dsimp only
  rw [stm_get, h]
theorem wp_shape {q : Sp0} {t : Sto} {w sh : Str} {Q : D → Sto → Prop} {E : XP} (h : T_SHAPES.lookup w = some sh) (hQ : ∀ u, Q (.str sh) (stm q (t ++ u))) : wpR (l_shape [.str w] (stm q t)) Q E := by
  obtain ⟨hv, hs⟩ := shape_val h
  unfold l_shape
  refine wp_fn (by simp) ?_
  walk_at "wp"
  refine wp_mDLit (ms := sh1) (by decide) ?_
  walk_at "wp"
  refine wp_mDLit (ms := sh2) (by decide) ?_
  walk_at "wp"
  have el : (t ++ [Ob.dct (asK sh1)]).length = t.length + 1 := by simp
  have g1 : (t ++ [Ob.dct (asK sh1)] ++ [Ob.dct (asK sh2)])[t.length]? = some (.dct (asK sh1)) := by simp
  have g2 : (t ++ [Ob.dct (asK sh1)] ++ [Ob.dct (asK sh2)])[t.length + 1]? = some (.dct (asK sh2)) := by simp
  rw [show (sh1.map fun p => ((.inr p.1 : Key), p.2)) = asK sh1 from rfl, show (sh2.map fun p => ((.inr p.1 : Key), p.2)) = asK sh2 from rfl, el]
  refine wpI_intro (by rw [dct_stm g1]; rfl) ?_
  walk_at "wp"
  refine wpI_intro (by rw [dct_stm g2]; rfl) ?_
  walk_at "wp"
  rw [fEq_str hs (nameOk_dec (z := "hole") (by decide)).str]
  walk_at "wp"
  have d2 : ∀ z, dg2? (stm q (t ++ [Ob.dct (asK sh1)] ++ [Ob.dct (asK sh2)])) (.ref (t.length + 1 + 2)) (.str w) z = some ((getK (asK sh2) (.inr w)).getD z) := fun z => by
    unfold dg2?
    rw [dct_stm g2]
    rfl
  have d1 : ∀ z, dg2? (stm q (t ++ [Ob.dct (asK sh1)] ++ [Ob.dct (asK sh2)])) (.ref (t.length + 2)) (.str w) z = some ((getK (asK sh1) (.inr w)).getD z) := fun z => by
    unfold dg2?
    rw [dct_stm g1]
    rfl
  have fin := hQ ([Ob.dct (asK sh1)] ++ [Ob.dct (asK sh2)])
  rw [← List.append_assoc, ← hv] at fin
  unfold shDef at fin
  refine wpB_dec (fun e => ?_) (fun e => ?_)
  · walk_at "wp"
    rw [d2]
    walk_at "wp"
    rw [d1]
    walk_at "wp"
    rw [if_pos e] at fin
    exact fin
  · walk_at "wp"
    rw [d2]
    walk_at "wp"
    rw [d1]
    walk_at "wp"
    rw [if_neg e] at fin
    exact fin
end MP

set_option Elab.async false
set_option linter.all false
set_option maxRecDepth 100000
set_option maxHeartbeats 8000000
/-! PP5: all steps -/
namespace MP
open PySem L2
local macro_rules | `(tactic| walk_at "wp") => `(tactic| try simp only [↓wp_mSeq, ↓wp_mNext, ↓wp_mBrk, ↓wp_mCnt, ↓wp_mExpr, ↓wp_mRet, ↓wp_mRetN, ↓wp_mIf, ↓wp_mSet, ↓wp_mPar, ↓wp_mPar3, ↓wp_mAsg, ↓wp_mFor, ↓wp_mDPut, ↓wp_mFldSet, ↓wp_mVar, ↓wp_mC, ↓wp_mOp, ↓wp_mUn, ↓wp_mNil, ↓wp_mCons, ↓wp_mStar, ↓wp_mTup, ↓wp_mLst, ↓wp_mLstB, ↓wp_mIfE, ↓wp_mTst, ↓wp_mNot, ↓wp_mAnd, ↓wp_mOr, ↓wp_mAndV, ↓wp_mOrV, ↓wp_mNotV, ↓wp_mChain, ↓wp_mCall, ↓wp_mCallB, ↓wpO_pu, ↓wp_mBm, ↓wp_mBm0, ↓wp_moN, ↓wp_moS, ↓wp_mSl, ↓wp_mIsi, ↓wp_mTab, ↓wp_mTabIn, ↓wp_mTabNotIn, ↓wp_mDGet, ↓wp_mDGet2, ↓wp_mDNew, ↓wp_mSortSet, ↓wp_mSortSetB, ↓wp_mLenSet, ↓wp_mFrz, ↓wp_mFld, ↓wp_mMeth, ↓wp_mMake, ↓wp_mLenO, ↓wp_mEqO, ↓wp_mNeO, ↓wp_mLc, ↓wp_mLcB, ↓wp_miSeq, ↓wp_miRng, ↓wp_miZip, ↓wp_miEnum, ↓wp_gmName, ↓wp_gmNil, ↓wp_gmCons, ↓wp_gmTup, ↓wp_gmSub, ↓wp_mYes, ↓wpR_ok, wpO_some, wpB_true, wpB_false, wpB_not, wpI_true, asB_bl, asI_int, asT_tup, asS_str, two_two, three_three, isNon_non, cI_int, pad, wipeE, List.getElem?_cons_zero, List.getElem?_cons_succ, List.set_cons_zero, List.set_cons_succ, fAdd_int, fSub_int, fLt_int, fLe_int, fGt_int, fGe_int, fEq_int, fNe_int, fNeg_int, stm_ix0, stm_ix1, stm_ix2, stm_ix3, stm_set1, stm_set2, stm_set3, stm_ne, stm_tyL0, gInt_int, tyS_str, stm_len, stm_app])
theorem fSl_tup {s : Sto} {x : D} {r : List D} : fSl s (.tup (x :: r)) (some 1) none = some (.tup r) := by
  show some (D.tup (cutD (x :: r) (some 1) none)) = _
  rw [cut1]
theorem at0 {x : D} {r : List D} : atI (x :: r : List D) 0 = some x := atI_nat (n := 0) rfl
theorem at1 {x y : D} {r : List D} : atI (x :: y :: r : List D) 1 = some y := atI_nat (n := 1) rfl
theorem inner_exact {q : Sp0} {t : Sto} {n : Nat} {d : D} (h : StepOk (n + 1) d) : p_inner_lists [d] (stm q t) = some (.ok (.lst ((inner d).map .tup)) (stm q t)) := by
  obtain ⟨wd, sh, its, rfl, h1, h2⟩ := h
  have hlen := pr_len h2
  have hsh := shape_len h1
  refine eq_of_wp ?_
  unfold p_inner_lists
  refine wp_fn (by simp) ?_
  walk_at "wp"
  rw [fSl_tup]
  walk_at "wp"
  rw [fIx_tup, at0]
  walk_at "wp"
  simp only [Option.bind_some]
  rw [h1]
  walk_at "wp"
  rw [zip_of (.inl rfl)]
  walk_at "wp"
  refine wpI_intro (le_line (by rw [zipD_len]; simp; omega)) ?_
  rw [inner_mk h1 rfl]
  refine wp_lcB (fun rest acc s => s = stm q t ∧ ∃ cs' its', rest = zipD its' (cs'.map sg) ∧ Paired (ItOk (StepOk n)) cs' its' ∧ acc ++ (lstsOf cs' its').map .tup = (lstsOf sh.cps.toList its).map .tup) ?_ ?_ ⟨rfl, _, its, rfl, h2, rfl⟩
  · rintro x rest acc s ⟨rfl, cs', its', hr, hi, hpre⟩
    refine ⟨⟨trivial, trivial⟩, ?_⟩
    cases hi with
    | nil => cases hr
    | @cons c it cs2 its2 hc hcs =>
      rw [zip_cons] at hr
      injection hr with hr1 hr2
      subst hr1 hr2
      walk_at "wp"
      rw [k_l hc.lt]
      walk_at "wp"
      refine wpB_dec (fun e => ?_) (fun e => ?_)
      · subst e
        cases hc with
        | @l ss hss =>
          walk_at "wp"
          refine ⟨by trivial, cs2, its2, rfl, hcs, ?_⟩
          rw [← hpre]
          simp [lstsOf]
      · refine ⟨rfl, cs2, its2, rfl, hcs, ?_⟩
        rw [← hpre]
        simp [lstsOf, e]
  · rintro acc s ⟨rfl, cs', its', hr, hi, hpre⟩
    refine ⟨⟨trivial, trivial⟩, ?_⟩
    have : lstsOf cs' its' = [] := by
      cases hi with
      | nil => rfl
      | cons _ _ => cases hr
    rw [this, List.map_nil, List.append_nil] at hpre
    subst hpre
    exact ⟨rfl, rfl⟩
theorem wp_lists {q : Sp0} {t : Sto} {n : Nat} {d : D} {Q : D → Sto → Prop} {E : XP} (h : StepOk (n + 1) d) (hQ : ∀ u, Q (.lst ((inner d).map .tup)) (stm q (t ++ u))) : wpR (l_lists [d] (stm q t)) Q E := by
  obtain ⟨wd, sh, its, rfl, h1, h2⟩ := h
  have hlen := pr_len h2
  have hsh := shape_len h1
  unfold l_lists
  refine wp_fn (by simp) ?_
  walk_at "wp"
  rw [fSl_tup]
  walk_at "wp"
  rw [fIx_tup, at0]
  walk_at "wp"
  refine wp_shape h1 fun u => ?_
  walk_at "wp"
  rw [zip_of (.inl rfl)]
  walk_at "wp"
  refine wpI_intro (le_line (by rw [zipD_len]; simp; omega)) ?_
  rw [inner_mk h1 rfl] at hQ
  refine wp_lcB (fun rest acc s => s = stm q (t ++ u) ∧ ∃ cs' its', rest = zipD its' (cs'.map sg) ∧ Paired (ItOk (StepOk n)) cs' its' ∧ acc ++ (lstsOf cs' its').map .tup = (lstsOf sh.cps.toList its).map .tup) ?_ ?_ ⟨rfl, _, its, rfl, h2, rfl⟩
  · rintro x rest acc s ⟨rfl, cs', its', hr, hi, hpre⟩
    refine ⟨⟨trivial, trivial⟩, ?_⟩
    cases hi with
    | nil => cases hr
    | @cons c it cs2 its2 hc hcs =>
      rw [zip_cons] at hr
      injection hr with hr1 hr2
      subst hr1 hr2
      walk_at "wp"
      rw [k_l hc.lt]
      walk_at "wp"
      refine wpB_dec (fun e => ?_) (fun e => ?_)
      · subst e
        cases hc with
        | @l ss hss =>
          walk_at "wp"
          refine ⟨by trivial, cs2, its2, rfl, hcs, ?_⟩
          rw [← hpre]
          simp [lstsOf]
      · refine ⟨rfl, cs2, its2, rfl, hcs, ?_⟩
        rw [← hpre]
        simp [lstsOf, e]
  · rintro acc s ⟨rfl, cs', its', hr, hi, hpre⟩
    refine ⟨⟨trivial, trivial⟩, ?_⟩
    have : lstsOf cs' its' = [] := by
      cases hi with
      | nil => rfl
      | cons _ _ => cases hr
    rw [this, List.map_nil, List.append_nil] at hpre
    subst hpre
    exact hQ u
theorem ext_stm {q : Sp0} {t : Sto} {k : Nat} {l m : List D} {y : D} (h : t[k]? = some (.lst l)) (hy : items? (stm q t) y = some m) (hl : l.length + m.length ≤ 1000000) : bExtend (stm q t) (.ref (k + 2)) [y] = some (.non, stm q (t.set k (.lst (l ++ m)))) := by
  unfold bExtend
  dsimp only
  rw [box_stm h, hy]
  dsimp only
  rw [if_pos (by omega), stm_upd]
theorem frz_stm {q : Sp0} {t : Sto} {k : Nat} {l : List D} (h : t[k]? = some (.lst l)) : (stm q t).set (k + 2) .gone = stm q (t.set k .gone) := stm_upd
/-- the law's own list of all steps -/
theorem wp_all : ∀ (n N : Nat), n < N → ∀ {q : Sp0} {t : Sto} {ds : List D} {Q : D → Sto → Prop} {E : XP}, (∀ d ∈ ds, StepOk n d) → (allS n ds).length ≤ 1000 → (∀ t', Ex t t' → Q (.lst (allS n ds)) (stm q t')) → wpR (l_all N [.tup ds] (stm q t)) Q E := by
  intro n
  induction n with
  | zero =>
    intro N hN q t ds Q E h hcnt hQ
    obtain ⟨N, rfl⟩ : ∃ M, N = M + 1 := ⟨N - 1, by omega⟩
    have : ds = [] := by
      cases ds with
      | nil => rfl
      | cons d ds => exact (h d List.mem_cons_self).elim
    subst this
    unfold l_all
    refine wp_fn (by simp) ?_
    walk_at "wp"
    refine wpI_intro (le_line (by simp)) ?_
    walk_at "wp"
    have es : ∀ s, seqOf s (.tup []) = some ([], any_) := fun s => rfl
    rw [es]
    walk_at "wp"
    refine wp_forN ?_
    walk_at "wp"
    rw [box_stm last_get]
    walk_at "wp"
    rw [stm_upd, last_set]
    exact hQ _ Ex.app
  | succ n ih =>
    intro N hN q t ds Q E h hcnt hQ
    obtain ⟨N, rfl⟩ : ∃ M, N = M + 1 := ⟨N - 1, by omega⟩
    unfold l_all
    refine wp_fn (by simp) ?_
    walk_at "wp"
    refine wpI_intro (le_line (by simp)) ?_
    walk_at "wp"
    have es : ∀ s, seqOf s (.tup ds) = some (ds, any_) := fun s => rfl
    rw [es]
    walk_at "wp"
    refine wp_for (fun rest ρ s => ∃ (t2 : Sto) (acc : List D) (o2 o3 : Option D), ρ = [some (.tup ds), some (.ref (t.length + 2)), o2, o3] ∧ s = stm q t2 ∧ Ex t t2 ∧ t2[t.length]? = some (.lst acc) ∧ acc ++ allS (n + 1) rest = allS (n + 1) ds ∧ ∀ d ∈ rest, StepOk (n + 1) d) ?_ ?_ ⟨_, [], none, none, rfl, rfl, Ex.app, last_get, rfl, h⟩
    · rintro x rest ρ s ⟨t2, acc, o2, o3, rfl, rfl, ex, hb, hacc, hok⟩
      refine ⟨trivial, ?_⟩
      have hx := hok x List.mem_cons_self
      have hlen := congrArg List.length hacc
      rw [show x :: rest = [x] ++ rest from rfl, allS_app, allS_one] at hacc hlen
      simp only [List.length_append, List.length_cons, List.length_nil] at hlen
      walk_at "wp"
      rw [tyL_stm hb]
      walk_at "wp"
      rw [app_stm hb (by omega)]
      walk_at "wp"
      have hlt := (List.getElem?_eq_some_iff.mp hb).1
      refine wp_lists hx fun u => ?_
      walk_at "wp"
      have es2 : ∀ s, seqOf s (.lst ((inner x).map .tup)) = some ((inner x).map .tup, any_) := fun s => rfl
      rw [es2]
      walk_at "wp"
      refine wp_for (fun rest2 ρ s => ∃ (t3 : Sto) (acc2 : List D) (ls : List (List D)) (o3 : Option D), ρ = [some (.tup ds), some (.ref (t.length + 2)), some x, o3] ∧ s = stm q t3 ∧ Ex t t3 ∧ t3[t.length]? = some (.lst acc2) ∧ rest2 = ls.map .tup ∧ acc2 ++ ls.flatMap (allS n) = acc ++ [x] ++ (inner x).flatMap (allS n) ∧ ∀ l ∈ ls, l ∈ inner x) ?_ ?_ ⟨_, acc ++ [x], inner x, o3, rfl, rfl, (ex.set (Nat.le_refl _)).trans Ex.app, by rw [List.getElem?_append_left (by simpa using hlt), List.getElem?_set_self hlt], rfl, rfl, fun _ h => h⟩
      · rintro y rest2 ρ s ⟨t3, acc2, ls, p3, rfl, rfl, ex3, hb3, hr, hacc2, hsub⟩
        refine ⟨trivial, ?_⟩
        cases ls with
        | nil => cases hr
        | cons l ls =>
          injection hr with hr1 hr2
          subst hr1 hr2
          have hin := hsub l List.mem_cons_self
          have hlen2 := congrArg List.length hacc2
          simp only [List.length_append, List.flatMap_cons, List.length_cons, List.length_nil] at hlen2
          walk_at "wp"
          rw [tyL_stm hb3]
          walk_at "wp"
          refine ih N (by omega) (inner_ok hx l hin) (by omega) fun t4 e4 => ?_
          have hb4 := e4.keep _ _ hb3
          have hlt4 := (List.getElem?_eq_some_iff.mp hb4).1
          walk_at "wp"
          rw [ext_stm (m := allS n l) hb4 rfl (by omega)]
          walk_at "wp"
          exact ⟨_, acc2 ++ allS n l, ls, _, rfl, rfl, (ex3.trans e4).set (Nat.le_refl _), by rw [List.getElem?_set_self hlt4], rfl, by rw [← hacc2]; simp, fun m hm => hsub m (List.mem_cons_of_mem _ hm)⟩
      · rintro ρ s ⟨t3, acc2, ls, p3, rfl, rfl, ex3, hb3, hr, hacc2, hsub⟩
        have : ls = [] := by cases ls with
          | nil => rfl
          | cons _ _ => cases hr
        subst this
        rw [List.flatMap_nil, List.append_nil] at hacc2
        exact ⟨trivial, t3, acc2, _, _, rfl, rfl, ex3, hb3, by rw [hacc2, ← hacc]; simp, fun d hd => hok d (List.mem_cons_of_mem _ hd)⟩
    · rintro ρ s ⟨t2, acc, o2, o3, rfl, rfl, ex, hb, hacc, hok⟩
      refine ⟨trivial, ?_⟩
      have e0 : allS (n + 1) [] = [] := rfl
      rw [e0, List.append_nil] at hacc
      subst hacc
      walk_at "wp"
      rw [box_stm hb]
      walk_at "wp"
      rw [stm_upd]
      exact hQ _ (ex.set (Nat.le_refl _))
/-- the program's list of all steps, with paths -/
theorem wp_allP : ∀ (n N : Nat), n < N → ∀ {q : Sp0} {t : Sto} {ds path : List D} {Q : D → Sto → Prop} {E : XP}, (∀ d ∈ ds, StepOk n d) → (allS n ds).length ≤ 1000 → path.length + 2 * n ≤ 900 → (∀ t' (ps : List (D × D)), Ex t t' → ps.map (·.2) = allS n ds → Q (.lst (ps.map fun p => .tup [p.1, p.2])) (stm q t')) → wpR (p_all_steps N [.tup ds, .tup path] (stm q t)) Q E := by
  intro n
  induction n with
  | zero =>
    intro N hN q t ds path Q E h hcnt hp hQ
    obtain ⟨N, rfl⟩ : ∃ M, N = M + 1 := ⟨N - 1, by omega⟩
    have : ds = [] := by
      cases ds with
      | nil => rfl
      | cons d ds => exact (h d List.mem_cons_self).elim
    subst this
    unfold p_all_steps
    refine wp_fn (by simp) ?_
    walk_at "wp"
    refine wpI_intro (le_line (by simp)) ?_
    walk_at "wp"
    have es : ∀ s, enum? s [.tup []] = some ([], any_) := fun s => rfl
    rw [es]
    walk_at "wp"
    refine wp_forN ?_
    walk_at "wp"
    rw [box_stm last_get]
    walk_at "wp"
    rw [stm_upd, last_set]
    exact hQ _ [] Ex.app rfl
  | succ n ih =>
    intro N hN q t ds path Q E h hcnt hp hQ
    obtain ⟨N, rfl⟩ : ∃ M, N = M + 1 := ⟨N - 1, by omega⟩
    unfold p_all_steps
    refine wp_fn (by simp) ?_
    walk_at "wp"
    refine wpI_intro (le_line (by simp)) ?_
    walk_at "wp"
    have es : ∀ s, enum? s [.tup ds] = some (enumF 0 ds, any_) := fun s => by
      show some (enumD ds, any_) = _
      rw [enumD_eq]
    rw [es]
    walk_at "wp"
    refine wp_for (fun rest ρ s => ∃ (t2 : Sto) (acc : List (D × D)) (k : Nat) (rd : List D) (o3 o4 o5 o6 o7 : Option D), ρ = [some (.tup ds), some (.tup path), some (.ref (t.length + 2)), o3, o4, o5, o6, o7] ∧ s = stm q t2 ∧ Ex t t2 ∧ t2[t.length]? = some (.lst (acc.map fun p => .tup [p.1, p.2])) ∧ rest = enumF k rd ∧ acc.map (·.2) ++ allS (n + 1) rd = allS (n + 1) ds ∧ ∀ d ∈ rd, StepOk (n + 1) d) ?_ ?_ ⟨_, [], 0, ds, none, none, none, none, none, rfl, rfl, Ex.app, last_get, rfl, rfl, h⟩
    · rintro x rest ρ s ⟨t2, acc, k, rd, o3, o4, o5, o6, o7, rfl, rfl, ex, hb, hr, hacc, hok⟩
      refine ⟨trivial, ?_⟩
      obtain ⟨y, ys, rfl, rfl, rfl⟩ := enumF_cons hr
      have hx := hok y List.mem_cons_self
      have hlen := congrArg List.length hacc
      rw [show y :: ys = [y] ++ ys from rfl, allS_app, allS_one] at hacc hlen
      simp only [List.length_append, List.length_cons, List.length_map, List.length_nil] at hlen
      walk_at "wp"
      have ei : ∀ (s : Sto) (l : List D), items? s (.tup l) = some l := fun _ _ => rfl
      rw [ei]
      walk_at "wp"
      refine wpI_intro (le_line (by simp; omega)) ?_
      walk_at "wp"
      rw [tyL_stm hb]
      walk_at "wp"
      refine wpI_intro (le_line (by simp)) ?_
      walk_at "wp"
      rw [app_stm hb (by simp; omega)]
      walk_at "wp"
      have hlt := (List.getElem?_eq_some_iff.mp hb).1
      rw [inner_exact hx]
      walk_at "wp"
      rw [enum_lst]
      walk_at "wp"
      refine wp_for (fun rest2 ρ s => ∃ (t3 : Sto) (acc2 : List (D × D)) (j : Nat) (ls : List (List D)) (o6 o7 : Option D), ρ = [some (.tup ds), some (.tup path), some (.ref (t.length + 2)), some (.int (k : Int)), some y, some (.tup (path ++ [.int (k : Int)])), o6, o7] ∧ s = stm q t3 ∧ Ex t t3 ∧ t3[t.length]? = some (.lst (acc2.map fun p => .tup [p.1, p.2])) ∧ rest2 = enumF j (ls.map .tup) ∧ acc2.map (·.2) ++ ls.flatMap (allS n) = acc.map (·.2) ++ [y] ++ (inner y).flatMap (allS n) ∧ ∀ l ∈ ls, l ∈ inner y) ?_ ?_ ⟨_, acc ++ [(.tup (path ++ [.int (k : Int)]), y)], 0, inner y, o6, o7, rfl, rfl, ex.set (Nat.le_refl _), by rw [List.getElem?_set_self hlt]; simp, rfl, by simp, fun _ h => h⟩
      · rintro z rest2 ρ s ⟨t3, acc2, j, ls, p6, p7, rfl, rfl, ex3, hb3, hr, hacc2, hsub⟩
        refine ⟨trivial, ?_⟩
        cases ls with
        | nil => cases hr
        | cons l ls =>
          injection hr with hr1 hr2
          subst hr1 hr2
          have hin := hsub l List.mem_cons_self
          have hlen2 := congrArg List.length hacc2
          simp only [List.length_append, List.flatMap_cons, List.length_cons, List.length_map, List.length_nil] at hlen2
          walk_at "wp"
          rw [tyL_stm hb3]
          walk_at "wp"
          rw [ei]
          walk_at "wp"
          refine wpI_intro (le_line (by simp; omega)) ?_
          walk_at "wp"
          refine ih N (by omega) (inner_ok hx l hin) (by omega) (by simp; omega) fun t4 ps e4 hps => ?_
          have hb4 := e4.keep _ _ hb3
          have hlt4 := (List.getElem?_eq_some_iff.mp hb4).1
          have hpl : ps.length = (allS n l).length := by rw [← hps, List.length_map]
          walk_at "wp"
          rw [ext_stm (m := ps.map fun p => .tup [p.1, p.2]) hb4 rfl (by simp; omega)]
          walk_at "wp"
          exact ⟨_, acc2 ++ ps, j + 1, ls, _, _, rfl, rfl, (ex3.trans e4).set (Nat.le_refl _), by rw [List.getElem?_set_self hlt4]; simp, rfl, by rw [← hacc2]; simp [hps], fun m hm => hsub m (List.mem_cons_of_mem _ hm)⟩
      · rintro ρ s ⟨t3, acc2, j, ls, p6, p7, rfl, rfl, ex3, hb3, hr, hacc2, hsub⟩
        have : ls = [] := by cases ls with
          | nil => rfl
          | cons _ _ => cases hr
        subst this
        rw [List.flatMap_nil, List.append_nil] at hacc2
        exact ⟨trivial, t3, acc2, k + 1, ys, _, _, _, _, _, rfl, rfl, ex3, hb3, rfl, by rw [hacc2, ← hacc]; simp, fun d hd => hok d (List.mem_cons_of_mem _ hd)⟩
    · rintro ρ s ⟨t2, acc, k, rd, o3, o4, o5, o6, o7, rfl, rfl, ex, hb, hr, hacc, hok⟩
      refine ⟨trivial, ?_⟩
      have : rd = [] := enumF_nil hr
      subst this
      have e0 : allS (n + 1) [] = [] := rfl
      rw [e0, List.append_nil] at hacc
      walk_at "wp"
      rw [box_stm hb]
      walk_at "wp"
      rw [stm_upd]
      exact hQ _ acc (ex.set (Nat.le_refl _)) hacc
end MP

set_option Elab.async false
set_option linter.all false
set_option maxRecDepth 100000
set_option maxHeartbeats 8000000
/-! PP6: cells, words, len of a part; the law's own -/
namespace MP
open PySem L2
local macro_rules | `(tactic| walk_at "wp") => `(tactic| try simp only [↓wp_mSeq, ↓wp_mNext, ↓wp_mBrk, ↓wp_mCnt, ↓wp_mExpr, ↓wp_mRet, ↓wp_mRetN, ↓wp_mIf, ↓wp_mSet, ↓wp_mPar, ↓wp_mPar3, ↓wp_mAsg, ↓wp_mFor, ↓wp_mDPut, ↓wp_mFldSet, ↓wp_mVar, ↓wp_mC, ↓wp_mOp, ↓wp_mUn, ↓wp_mNil, ↓wp_mCons, ↓wp_mStar, ↓wp_mTup, ↓wp_mLst, ↓wp_mLstB, ↓wp_mIfE, ↓wp_mTst, ↓wp_mNot, ↓wp_mAnd, ↓wp_mOr, ↓wp_mAndV, ↓wp_mOrV, ↓wp_mNotV, ↓wp_mChain, ↓wp_mCall, ↓wp_mCallB, ↓wpO_pu, ↓wp_mBm, ↓wp_mBm0, ↓wp_moN, ↓wp_moS, ↓wp_mSl, ↓wp_mIsi, ↓wp_mTab, ↓wp_mTabIn, ↓wp_mTabNotIn, ↓wp_mDGet, ↓wp_mDGet2, ↓wp_mDNew, ↓wp_mSortSet, ↓wp_mSortSetB, ↓wp_mLenSet, ↓wp_mFrz, ↓wp_mFld, ↓wp_mMeth, ↓wp_mMake, ↓wp_mLenO, ↓wp_mEqO, ↓wp_mNeO, ↓wp_mLc, ↓wp_mLcB, ↓wp_miSeq, ↓wp_miRng, ↓wp_miZip, ↓wp_miEnum, ↓wp_gmName, ↓wp_gmNil, ↓wp_gmCons, ↓wp_gmTup, ↓wp_gmSub, ↓wp_mYes, ↓wpR_ok, wpO_some, wpB_true, wpB_false, wpB_not, wpI_true, asB_bl, asI_int, asT_tup, asS_str, two_two, three_three, isNon_non, cI_int, pad, wipeE, List.getElem?_cons_zero, List.getElem?_cons_succ, List.set_cons_zero, List.set_cons_succ, fAdd_int, fSub_int, fLt_int, fLe_int, fGt_int, fGe_int, fEq_int, fNe_int, fNeg_int, stm_ix0, stm_ix1, stm_ix2, stm_ix3, stm_set1, stm_set2, stm_set3, stm_ne, stm_tyL0, gInt_int, tyS_str, stm_len, stm_app])
def nm1 (c : Nat) (d : D) : List D := if c = 99 then [d] else if c = 104 then (match d with
    | .tup l => l
    | _ => []) else []
def namesOf : List Nat → List D → List D
  | c :: cs, d :: ds => nm1 c d ++ namesOf cs ds
  | _, _ => []
def namesD (d : D) : List D := match d with
  | .tup (.str w :: its) => (match T_SHAPES.lookup w with
    | some sh => namesOf sh.cps.toList its
    | none => [])
  | _ => []
theorem namesD_mk {w sh : Str} {its : List D} (h1 : T_SHAPES.lookup w = some sh) : namesD (.tup (.str w :: its)) = namesOf sh.cps.toList its := by
  unfold namesD
  dsimp only
  rw [h1]
theorem nm1_ok {S : D → Prop} {c : Nat} {d : D} (h : ItOk S c d) : ∃ zs : List Str, nm1 c d = zs.map .str ∧ zs.length ≤ 6 ∧ ∀ z ∈ zs, NameOk z := by
  cases h with
  | c hz => exact ⟨[_], rfl, by simp, by simpa using hz⟩
  | @h zs z1 z2 z3 => exact ⟨zs, rfl, z2, z3⟩
  | w _ => exact ⟨[], rfl, by simp, by simp⟩
  | f _ _ => exact ⟨[], rfl, by simp, by simp⟩
  | n _ => exact ⟨[], rfl, by simp, by simp⟩
  | t _ _ => exact ⟨[], rfl, by simp, by simp⟩
  | l _ => exact ⟨[], rfl, by simp, by simp⟩
theorem namesOf_ok {S : D → Prop} : ∀ {cs : List Nat} {its : List D}, Paired (ItOk S) cs its → ∃ zs : List Str, namesOf cs its = zs.map .str ∧ zs.length ≤ 6 * cs.length ∧ ∀ z ∈ zs, NameOk z
  | _, _, .nil => ⟨[], rfl, by simp, by simp⟩
  | _, _, .cons hc r => by
    obtain ⟨zs, e, h1, h2⟩ := nm1_ok hc
    obtain ⟨ys, e', h1', h2'⟩ := namesOf_ok r
    refine ⟨zs ++ ys, by rw [namesOf, e, e', List.map_append], by simp; omega, fun z hz => ?_⟩
    rcases List.mem_append.mp hz with h | h
    · exact h2 z h
    · exact h2' z h
theorem namesD_ok {n : Nat} {d : D} (h : StepOk n d) : ∃ zs : List Str, namesD d = zs.map .str ∧ zs.length ≤ 30 ∧ ∀ z ∈ zs, NameOk z := by
  cases n with
  | zero => exact h.elim
  | succ n =>
    obtain ⟨w, sh, its, rfl, h1, h2⟩ := h
    obtain ⟨zs, e, h3, h4⟩ := namesOf_ok h2
    have := shape_len h1
    exact ⟨zs, by rw [namesD_mk h1]; exact e, by omega, h4⟩
theorem all_ok : ∀ {n : Nat} {ds : List D}, (∀ d ∈ ds, StepOk n d) → ∀ x ∈ allS n ds, StepOk n x
  | 0, _, _, x, hx => by cases hx
  | n + 1, ds, h, x, hx => by
    rw [allS] at hx
    obtain ⟨d, hd, hx⟩ := List.mem_flatMap.mp hx
    rcases List.mem_cons.mp hx with rfl | hx
    · exact h x hd
    · obtain ⟨l, hl, hx⟩ := List.mem_flatMap.mp hx
      exact (all_ok (inner_ok (h d hd) l hl) x hx).succ
theorem names_all {n : Nat} : ∀ {ds : List D}, (∀ d ∈ ds, StepOk n d) → ∃ zs : List Str, ds.flatMap namesD = zs.map .str ∧ zs.length ≤ 30 * ds.length ∧ ∀ z ∈ zs, NameOk z
  | [], _ => ⟨[], rfl, by simp, by simp⟩
  | d :: ds, h => by
    obtain ⟨zs, e, h1, h2⟩ := namesD_ok (h d List.mem_cons_self)
    obtain ⟨ys, e', h1', h2'⟩ := names_all fun x hx => h x (List.mem_cons_of_mem _ hx)
    refine ⟨zs ++ ys, by rw [List.flatMap_cons, e, e', List.map_append], by simp; omega, fun z hz => ?_⟩
    rcases List.mem_append.mp hz with h | h
    · exact h2 z h
    · exact h2' z h
theorem cs_ch : (Str.ofString "ch").cps.toList = [99, 104] := by decide
theorem in_ch {s : Sto} {c : Nat} : fIn s (sg c) (.str "ch") = some (.bl (decide (c = 99 ∨ c = 104))) := by
  unfold fIn in?
  dsimp only
  rw [cs_ch]
  simp
theorem in_ch2 {s : Sto} {c : Nat} : fIn s (sg c) (.tup [.str "c", .str "h"]) = some (.bl (decide (c = 99 ∨ c = 104))) := by
  rw [fIn_strs (zs := ["c", "h"]) rfl (fun w => by intro h; cases h)]
  have e1 : (Str.ofString "c") = ⟨#[99]⟩ := by decide
  have e2 : (Str.ofString "h") = ⟨#[104]⟩ := by decide
  rw [e1, e2]
  simp
theorem k_hh {s : Sto} {c : Nat} (hc : c < 1114112) : fEq s (sg c) (.str "h") = some (.bl (decide (c = 104))) := k_h hc
theorem txts_box {q : Sp0} {t : Sto} {k : Nat} {zs : List Str} (h : t[k]? = some (.lst (zs.map .str))) (hl : zs.length < 4000) : txtsOf (stm q t) (.ref (k + 2)) = some zs := by
  unfold txtsOf
  rw [items_stm h, Option.bind_some, txts_map]
  dsimp only
  rw [if_pos hl]
theorem txts_lst {s : Sto} {zs : List Str} (hl : zs.length < 4000) : txtsOf s (.lst (zs.map .str)) = some zs := by
  unfold txtsOf
  show (match (txts? (zs.map .str)) with | some ss => if ss.length < 4000 then some ss else none | none => none) = _
  rw [txts_map]
  dsimp only
  rw [if_pos hl]
theorem map_str_inj {zs ys : List Str} (h : zs.map D.str = ys.map D.str) : zs = ys := by
  have h2 : (zs.map D.str).filterMap asS = (ys.map D.str).filterMap asS := by rw [h]
  rw [asS_map, asS_map] at h2
  exact h2
/-- the cells of a part -/
theorem wp_names_at {n : Nat} {q : Sp0} {t : Sto} {ds : List D} {zs : List Str} {Q : D → Sto → Prop} {E : XP} (hn : n ≤ 9) (h : ∀ d ∈ ds, StepOk n d) (hcnt : (allS n ds).length ≤ 100) (hz : (allS n ds).flatMap namesD = zs.map .str) (hzl : zs.length ≤ 3500)
    (hQ : ∀ t', Ex t t' → Q (.ref (t'.length + 2)) (stm q (t' ++ [.lst ((srt (ddS zs)).map .str)]))) : wpR (p_names_at [.tup ds, .str "ch"] (stm q t)) Q E := by
  unfold p_names_at
  refine wp_fn (by simp) ?_
  walk_at "wp"
  refine wpI_intro (le_line (by simp)) ?_
  walk_at "wp"
  refine wp_allP n 20 (by omega) h (by omega) (by simp; omega) fun t1 ps e1 hps => ?_
  walk_at "wp"
  have es : ∀ s, seqOf s (.lst (ps.map fun p => .tup [p.1, p.2])) = some (ps.map fun p => .tup [p.1, p.2], any_) := fun s => rfl
  rw [es]
  walk_at "wp"
  have hall := all_ok h
  have hzlen : ((allS n ds).flatMap namesD).length ≤ 3500 := by rw [hz, List.length_map]; exact hzl
  have hb1 : t1[t.length]? = some (.lst []) := e1.keep _ _ last_get
  refine wp_for (fun rest ρ s => ∃ (t2 : Sto) (acc : List D) (rp : List (D × D)) (o3 o4 o5 o6 : Option D), ρ = [some (.tup ds), some (.str "ch"), some (.ref (t.length + 2)), o3, o4, o5, o6] ∧ s = stm q t2 ∧ Ex t t2 ∧ t2[t.length]? = some (.lst acc) ∧ rest = rp.map (fun p => .tup [p.1, p.2]) ∧ acc ++ (rp.map (·.2)).flatMap namesD = (allS n ds).flatMap namesD ∧ ∀ p ∈ rp, p ∈ ps) ?_ ?_ ⟨t1, [], ps, none, none, none, none, rfl, rfl, Ex.app.trans e1, hb1, rfl, by rw [hps]; rfl, fun _ h => h⟩
  · rintro x rest ρ s ⟨t2, acc, rp, o3, o4, o5, o6, rfl, rfl, ex, hb, hr, hacc, hsub⟩
    refine ⟨trivial, ?_⟩
    cases rp with
    | nil => cases hr
    | cons p rp =>
      injection hr with hr1 hr2
      subst hr1 hr2
      have hd : StepOk n p.2 := hall _ (by rw [← hps]; exact List.mem_map_of_mem (hsub p List.mem_cons_self))
      obtain ⟨n', rfl⟩ : ∃ m, n = m + 1 := by
        cases n with
        | zero => exact hd.elim
        | succ m => exact ⟨m, rfl⟩
      obtain ⟨wd, sh, its, ed, h1, h2⟩ := hd
      have hacl := congrArg List.length hacc
      rw [List.map_cons, List.flatMap_cons, ed, namesD_mk h1] at hacc hacl
      simp only [List.length_append] at hacl
      walk_at "wp"
      rw [ed, fSl_tup]
      walk_at "wp"
      rw [fIx_tup, at0]
      walk_at "wp"
      simp only [Option.bind_some]
      rw [h1]
      walk_at "wp"
      rw [zip_of (.inl rfl)]
      walk_at "wp"
      refine wp_for (fun rest2 ρ s => ∃ (t3 : Sto) (acc2 : List D) (cs' : List Nat) (its' : List D) (o5 o6 : Option D), ρ = [some (.tup ds), some (.str "ch"), some (.ref (t.length + 2)), some p.1, some (.tup (.str wd :: its)), o5, o6] ∧ s = stm q t3 ∧ Ex t t3 ∧ t3[t.length]? = some (.lst acc2) ∧ rest2 = zipD its' (cs'.map sg) ∧ Paired (ItOk (StepOk n')) cs' its' ∧ acc2 ++ namesOf cs' its' = acc ++ namesOf sh.cps.toList its) ?_ ?_ ⟨t2, acc, _, its, o5, o6, rfl, rfl, ex, hb, rfl, h2, rfl⟩
      · rintro y rest2 ρ s ⟨t3, acc2, cs', its', p5, p6, rfl, rfl, ex3, hb3, hr, hi, hac2⟩
        refine ⟨⟨trivial, trivial⟩, ?_⟩
        cases hi with
        | nil => cases hr
        | @cons c it cs2 its2 hc hcs =>
          rw [zip_cons] at hr
          injection hr with hr1 hr2
          subst hr1 hr2
          have hlt3 := (List.getElem?_eq_some_iff.mp hb3).1
          have hl2 := congrArg List.length hac2
          rw [namesOf] at hac2 hl2
          simp only [List.length_append] at hl2
          walk_at "wp"
          rw [in_ch]
          walk_at "wp"
          refine wpB_dec (fun e => ?_) (fun e => ?_)
          · walk_at "wp"
            rw [tyL_stm hb3]
            walk_at "wp"
            rw [k_h hc.lt]
            walk_at "wp"
            refine wpB_dec (fun e' => ?_) (fun e' => ?_)
            · subst e'
              cases hc with
              | @h ys y1 y2 y3 =>
                have en : nm1 104 (.tup (ys.map .str)) = ys.map .str := rfl
                rw [en] at hac2 hl2
                walk_at "wp"
                rw [ext_stm (m := ys.map .str) hb3 rfl (by omega)]
                walk_at "wp"
                exact ⟨_, acc2 ++ ys.map .str, cs2, its2, _, _, rfl, rfl, ex3.set (Nat.le_refl _), by rw [List.getElem?_set_self hlt3], rfl, hcs, by rw [List.append_assoc]; exact hac2⟩
            · have ec : c = 99 := by rcases e with h | h
                                     · exact h
                                     · exact absurd h e'
              subst ec
              have en : nm1 99 it = [it] := rfl
              rw [en] at hac2 hl2
              walk_at "wp"
              refine wpI_intro (le_line (by simp)) ?_
              walk_at "wp"
              rw [ext_stm (m := [it]) hb3 rfl (by omega)]
              walk_at "wp"
              exact ⟨_, acc2 ++ [it], cs2, its2, _, _, rfl, rfl, ex3.set (Nat.le_refl _), by rw [List.getElem?_set_self hlt3], rfl, hcs, by rw [List.append_assoc]; exact hac2⟩
          · walk_at "wp"
            have en : nm1 c it = [] := by
              unfold nm1
              rw [if_neg (fun h => e (.inl h)), if_neg (fun h => e (.inr h))]
            rw [en, List.nil_append] at hac2
            exact ⟨t3, acc2, cs2, its2, _, _, rfl, rfl, ex3, hb3, rfl, hcs, hac2⟩
      · rintro ρ s ⟨t3, acc2, cs', its', p5, p6, rfl, rfl, ex3, hb3, hr, hi, hac2⟩
        have hn0 : namesOf cs' its' = [] := by
          cases hi with
          | nil => rfl
          | cons _ _ => cases hr
        rw [hn0, List.append_nil] at hac2
        refine ⟨⟨trivial, trivial⟩, t3, acc2, rp, _, _, _, _, rfl, rfl, ex3, hb3, rfl, ?_, fun p hp => hsub p (List.mem_cons_of_mem _ hp)⟩
        rw [hac2, List.append_assoc]
        exact hacc
  · rintro ρ s ⟨t2, acc, rp, o3, o4, o5, o6, rfl, rfl, ex, hb, hr, hacc, hsub⟩
    refine ⟨trivial, ?_⟩
    have : rp = [] := by cases rp with
      | nil => rfl
      | cons _ _ => cases hr
    subst this
    rw [List.map_nil, List.flatMap_nil, List.append_nil, hz] at hacc
    subst hacc
    walk_at "wp"
    rw [txts_box hb (by omega)]
    walk_at "wp"
    exact hQ t2 ex
/-- the law's own cells -/
theorem wp_cells {n : Nat} {q : Sp0} {t : Sto} {ds : List D} {zs : List Str} {Q : D → Sto → Prop} {E : XP} (hn : n ≤ 9) (h : ∀ d ∈ ds, StepOk n d) (hcnt : (allS n ds).length ≤ 100) (hz : (allS n ds).flatMap namesD = zs.map .str) (hzl : zs.length ≤ 3500)
    (hQ : ∀ t', Ex t t' → Q (.lst ((srt (ddS zs)).map .str)) (stm q t')) : wpR (l_cells [.tup ds] (stm q t)) Q E := by
  unfold l_cells
  refine wp_fn (by simp) ?_
  walk_at "wp"
  refine wpI_intro (le_line (by simp)) ?_
  walk_at "wp"
  refine wp_all n 20 (by omega) h (by omega) fun t1 e1 => ?_
  walk_at "wp"
  have es : ∀ s, seqOf s (.lst (allS n ds)) = some (allS n ds, any_) := fun s => rfl
  rw [es]
  walk_at "wp"
  have hall := all_ok h
  have hzlen : ((allS n ds).flatMap namesD).length ≤ 3500 := by rw [hz, List.length_map]; exact hzl
  have hb1 : t1[t.length]? = some (.lst []) := e1.keep _ _ last_get
  refine wp_for (fun rest ρ s => ∃ (t2 : Sto) (acc : List D) (o2 o3 o4 : Option D), ρ = [some (.tup ds), some (.ref (t.length + 2)), o2, o3, o4] ∧ s = stm q t2 ∧ Ex t t2 ∧ t2[t.length]? = some (.lst acc) ∧ acc ++ rest.flatMap namesD = (allS n ds).flatMap namesD ∧ ∀ d ∈ rest, StepOk n d) ?_ ?_ ⟨t1, [], none, none, none, rfl, rfl, Ex.app.trans e1, hb1, rfl, hall⟩
  · rintro x rest ρ s ⟨t2, acc, o2, o3, o4, rfl, rfl, ex, hb, hacc, hok⟩
    refine ⟨trivial, ?_⟩
    have hd := hok x List.mem_cons_self
    obtain ⟨n', rfl⟩ : ∃ m, n = m + 1 := by
      cases n with
      | zero => exact hd.elim
      | succ m => exact ⟨m, rfl⟩
    obtain ⟨wd, sh, its, rfl, h1, h2⟩ := hd
    have hacl := congrArg List.length hacc
    rw [List.flatMap_cons, namesD_mk h1] at hacc hacl
    simp only [List.length_append] at hacl
    walk_at "wp"
    rw [fSl_tup]
    walk_at "wp"
    rw [fIx_tup, at0]
    walk_at "wp"
    refine wp_shape h1 fun u => ?_
    walk_at "wp"
    rw [zip_of (.inl rfl)]
    walk_at "wp"
    refine wp_for (fun rest2 ρ s => ∃ (t3 : Sto) (acc2 : List D) (cs' : List Nat) (its' : List D) (o3 o4 : Option D), ρ = [some (.tup ds), some (.ref (t.length + 2)), some (.tup (.str wd :: its)), o3, o4] ∧ s = stm q t3 ∧ Ex t t3 ∧ t3[t.length]? = some (.lst acc2) ∧ rest2 = zipD its' (cs'.map sg) ∧ Paired (ItOk (StepOk n')) cs' its' ∧ acc2 ++ namesOf cs' its' = acc ++ namesOf sh.cps.toList its) ?_ ?_ ⟨t2 ++ u, acc, _, its, o3, o4, rfl, rfl, ex.trans Ex.app, app_keep _ _ hb, rfl, h2, rfl⟩
    · rintro y rest2 ρ s ⟨t3, acc2, cs', its', p5, p6, rfl, rfl, ex3, hb3, hr, hi, hac2⟩
      refine ⟨⟨trivial, trivial⟩, ?_⟩
      cases hi with
      | nil => cases hr
      | @cons c it cs2 its2 hc hcs =>
        rw [zip_cons] at hr
        injection hr with hr1 hr2
        subst hr1 hr2
        have hlt3 := (List.getElem?_eq_some_iff.mp hb3).1
        have hl2 := congrArg List.length hac2
        rw [namesOf] at hac2 hl2
        simp only [List.length_append] at hl2
        walk_at "wp"
        refine wpI_intro (le_line (by simp)) ?_
        rw [in_ch2]
        walk_at "wp"
        refine wpB_dec (fun e => ?_) (fun e => ?_)
        · walk_at "wp"
          rw [tyL_stm hb3]
          walk_at "wp"
          rw [k_c hc.lt]
          walk_at "wp"
          refine wpB_dec (fun e' => ?_) (fun e' => ?_)
          · subst e'
            have en : nm1 99 it = [it] := rfl
            rw [en] at hac2 hl2
            walk_at "wp"
            refine wpI_intro (le_line (by simp)) ?_
            walk_at "wp"
            rw [ext_stm (m := [it]) hb3 rfl (by omega)]
            walk_at "wp"
            exact ⟨_, acc2 ++ [it], cs2, its2, _, _, rfl, rfl, ex3.set (Nat.le_refl _), by rw [List.getElem?_set_self hlt3], rfl, hcs, by rw [List.append_assoc]; exact hac2⟩
          · have ec : c = 104 := by rcases e with h | h
                                    · exact absurd h e'
                                    · exact h
            subst ec
            cases hc with
            | @h ys y1 y2 y3 =>
              have en : nm1 104 (.tup (ys.map .str)) = ys.map .str := rfl
              rw [en] at hac2 hl2
              walk_at "wp"
              rw [ext_stm (m := ys.map .str) hb3 rfl (by omega)]
              walk_at "wp"
              exact ⟨_, acc2 ++ ys.map .str, cs2, its2, _, _, rfl, rfl, ex3.set (Nat.le_refl _), by rw [List.getElem?_set_self hlt3], rfl, hcs, by rw [List.append_assoc]; exact hac2⟩
        · walk_at "wp"
          have en : nm1 c it = [] := by
            unfold nm1
            rw [if_neg (fun h => e (.inl h)), if_neg (fun h => e (.inr h))]
          rw [en, List.nil_append] at hac2
          exact ⟨t3, acc2, cs2, its2, _, _, rfl, rfl, ex3, hb3, rfl, hcs, hac2⟩
    · rintro ρ s ⟨t3, acc2, cs', its', p5, p6, rfl, rfl, ex3, hb3, hr, hi, hac2⟩
      have hn0 : namesOf cs' its' = [] := by
        cases hi with
        | nil => rfl
        | cons _ _ => cases hr
      rw [hn0, List.append_nil] at hac2
      refine ⟨⟨trivial, trivial⟩, t3, acc2, _, _, _, rfl, rfl, ex3, hb3, ?_, fun d hd => hok d (List.mem_cons_of_mem _ hd)⟩
      rw [hac2, List.append_assoc]
      exact hacc
  · rintro ρ s ⟨t2, acc, o2, o3, o4, rfl, rfl, ex, hb, hacc, hok⟩
    refine ⟨trivial, ?_⟩
    rw [List.flatMap_nil, List.append_nil, hz] at hacc
    subst hacc
    walk_at "wp"
    rw [txts_box hb (by omega)]
    walk_at "wp"
    exact hQ t2 ex
end MP

set_option Elab.async false
set_option linter.all false
set_option maxRecDepth 100000
set_option maxHeartbeats 8000000
/-! PP7: words, faults, len, what a part tells -/
namespace MP
open PySem L2
local macro_rules | `(tactic| walk_at "wp") => `(tactic| try simp only [↓wp_mSeq, ↓wp_mNext, ↓wp_mBrk, ↓wp_mCnt, ↓wp_mExpr, ↓wp_mRet, ↓wp_mRetN, ↓wp_mIf, ↓wp_mSet, ↓wp_mPar, ↓wp_mPar3, ↓wp_mAsg, ↓wp_mFor, ↓wp_mDPut, ↓wp_mFldSet, ↓wp_mVar, ↓wp_mC, ↓wp_mOp, ↓wp_mUn, ↓wp_mNil, ↓wp_mCons, ↓wp_mStar, ↓wp_mTup, ↓wp_mLst, ↓wp_mLstB, ↓wp_mIfE, ↓wp_mTst, ↓wp_mNot, ↓wp_mAnd, ↓wp_mOr, ↓wp_mAndV, ↓wp_mOrV, ↓wp_mNotV, ↓wp_mChain, ↓wp_mCall, ↓wp_mCallB, ↓wpO_pu, ↓wp_mBm, ↓wp_mBm0, ↓wp_moN, ↓wp_moS, ↓wp_mSl, ↓wp_mIsi, ↓wp_mTab, ↓wp_mTabIn, ↓wp_mTabNotIn, ↓wp_mDGet, ↓wp_mDGet2, ↓wp_mDNew, ↓wp_mSortSet, ↓wp_mSortSetB, ↓wp_mLenSet, ↓wp_mFrz, ↓wp_mFld, ↓wp_mMeth, ↓wp_mMake, ↓wp_mLenO, ↓wp_mEqO, ↓wp_mNeO, ↓wp_mLc, ↓wp_mLcB, ↓wp_miSeq, ↓wp_miRng, ↓wp_miZip, ↓wp_miEnum, ↓wp_gmName, ↓wp_gmNil, ↓wp_gmCons, ↓wp_gmTup, ↓wp_gmSub, ↓wp_mYes, ↓wpR_ok, wpO_some, wpB_true, wpB_false, wpB_not, wpI_true, asB_bl, asI_int, asT_tup, asS_str, two_two, three_three, isNon_non, cI_int, pad, wipeE, List.getElem?_cons_zero, List.getElem?_cons_succ, List.set_cons_zero, List.set_cons_succ, fAdd_int, fSub_int, fLt_int, fLe_int, fGt_int, fGe_int, fEq_int, fNe_int, fNeg_int, stm_ix0, stm_ix1, stm_ix2, stm_ix3, stm_set1, stm_set2, stm_set3, stm_ne, stm_tyL0, gInt_int, tyS_str, stm_len, stm_app])
def wd1 (ks : List Str) (d : D) : Option D := match d with
  | .tup (.str w :: x :: _) => if w ∈ ks then some x else none
  | _ => none
def KsOk (ks : List Str) : Prop := ∀ w ∈ ks, ∀ sh, T_SHAPES.lookup w = some sh → ∃ c r, sh.cps.toList = c :: r ∧ (c = 119 ∨ c = 102)
theorem ks_say : KsOk ["say"] := by
  intro w hw sh h
  obtain rfl : w = "say" := by simpa using hw
  rw [sh_say] at h
  cases h
  exact ⟨119, [], cs_w, .inl rfl⟩
theorem ks_fc : KsOk ["fault", "catch"] := by
  intro w hw sh h
  rcases (show w = Str.ofString "fault" ∨ w = Str.ofString "catch" by simpa using hw) with rfl | rfl
  · rw [sh_fault] at h
    cases h
    exact ⟨102, [], cs_f, .inr rfl⟩
  · rw [sh_catch] at h
    cases h
    exact ⟨102, [104, 108, 108], cs_fhll, .inr rfl⟩
/-- a step and its word -/
theorem wd_cases {ks : List Str} (hk : KsOk ks) {n : Nat} {d : D} (h : StepOk n d) : ∃ (w : Str) (its : List D), d = .tup (.str w :: its) ∧ PyData.strOk w = true ∧ ((w ∈ ks ∧ ∃ z r, its = .str z :: r ∧ NameOk z ∧ wd1 ks d = some (.str z)) ∨ (w ∉ ks ∧ wd1 ks d = none)) := by
  cases n with
  | zero => exact h.elim
  | succ n =>
    obtain ⟨w, sh, its, rfl, h1, h2⟩ := h
    refine ⟨w, its, rfl, (shape_val h1).2, ?_⟩
    by_cases hw : w ∈ ks
    · left
      obtain ⟨c, r, ec, hc⟩ := hk w hw sh h1
      rw [ec] at h2
      cases h2 with
      | @cons _ x _ its' hx hr =>
        rcases hc with rfl | rfl
        · cases hx with
          | @w z hz => exact ⟨hw, z, its', rfl, hz, by simp [wd1, hw]⟩
        · cases hx with
          | @f z hz _ => exact ⟨hw, z, its', rfl, hz, by simp [wd1, hw]⟩
    · right
      refine ⟨hw, ?_⟩
      cases its with
      | nil => rfl
      | cons x r => simp [wd1, hw]
theorem words_all {ks : List Str} (hk : KsOk ks) {n : Nat} : ∀ {ds : List D}, (∀ d ∈ ds, StepOk n d) → ∃ zs : List Str, ds.filterMap (wd1 ks) = zs.map .str ∧ zs.length ≤ ds.length ∧ ∀ z ∈ zs, NameOk z
  | [], _ => ⟨[], rfl, by simp, by simp⟩
  | d :: ds, h => by
    obtain ⟨ys, e', h1', h2'⟩ := words_all hk fun x hx => h x (List.mem_cons_of_mem _ hx)
    obtain ⟨w, its, _, _, hc⟩ := wd_cases hk (h d List.mem_cons_self)
    rcases hc with ⟨_, z, r, _, hz, e⟩ | ⟨_, e⟩
    · refine ⟨z :: ys, by rw [List.filterMap_cons, e, e']; rfl, by simp; omega, fun y hy => ?_⟩
      rcases List.mem_cons.mp hy with rfl | hy
      · exact hz
      · exact h2' y hy
    · exact ⟨ys, by rw [List.filterMap_cons, e, e'], by simp; omega, h2'⟩
def wdP (ks : List Str) (d : D) : Option D := match d with
  | .tup [_, x] => wd1 ks x
  | _ => none
theorem wdP_map (ks : List Str) : ∀ ps : List (D × D), (ps.map fun p => D.tup [p.1, p.2]).filterMap (wdP ks) = (ps.map (·.2)).filterMap (wd1 ks)
  | [] => rfl
  | p :: ps => by
    rw [List.map_cons, List.filterMap_cons, List.map_cons, List.filterMap_cons, wdP_map ks ps]
    rfl
theorem part_fld {q : Sp0} {t : Sto} {k : Nat} {ds : List D} (h : PartAt t k ds) : ((ins? (stm q t) "Part" (.ref (k + 2))).bind fun nf => nf.2.lookup (Str.ofString "frozen_steps")) = some (D.tup ds) := by
  unfold PartAt at h
  unfold ins?
  dsimp only
  rw [stm_get, h]
  dsimp only
  rw [if_pos rfl]
  rfl
theorem part_ins {q : Sp0} {t : Sto} {k : Nat} {ds : List D} (h : PartAt t k ds) : ins? (stm q t) "Part" (.ref (k + 2)) = some (k + 2, [(Str.ofString "frozen_steps", D.tup ds)]) := by
  unfold PartAt at h
  unfold ins?
  dsimp only
  rw [stm_get, h]
  dsimp only
  rw [if_pos rfl]
section
variable {n : Nat} {q : Sp0} {t : Sto} {k : Nat} {ds : List D} {zs : List Str} {Q : D → Sto → Prop} {E : XP}
theorem wp_steps_m (hp : PartAt t k ds) (hQ : Q (.tup ds) (stm q t)) : wpR (c_Part_steps [.ref (k + 2)] (stm q t)) Q E := by
  unfold c_Part_steps
  refine wp_fn (by simp) ?_
  walk_at "wp"
  rw [part_fld hp]
  walk_at "wp"
  exact hQ
theorem wp_cells_m (hp : PartAt t k ds) (hn : n ≤ 9) (h : ∀ d ∈ ds, StepOk n d) (hcnt : (allS n ds).length ≤ 100) (hz : (allS n ds).flatMap namesD = zs.map .str) (hzl : zs.length ≤ 3500)
    (hQ : ∀ t', Ex t t' → Q (.ref (t'.length + 2)) (stm q (t' ++ [.lst ((srt (ddS zs)).map .str)]))) : wpR (c_Part_cells [.ref (k + 2)] (stm q t)) Q E := by
  unfold c_Part_cells
  refine wp_fn (by simp) ?_
  walk_at "wp"
  rw [part_fld hp]
  walk_at "wp"
  exact wp_names_at hn h hcnt hz hzl hQ
theorem dec_mem1 {w a : Str} : decide (w ∈ [a]) = decide (w = a) := by simp
theorem wp_words_m (hp : PartAt t k ds) (hn : n ≤ 9) (h : ∀ d ∈ ds, StepOk n d) (hcnt : (allS n ds).length ≤ 100) (hz : (allS n ds).filterMap (wd1 ["say"]) = zs.map .str)
    (hQ : ∀ t', Ex t t' → Q (.ref (t'.length + 2)) (stm q (t' ++ [.lst ((srt (ddS zs)).map .str)]))) : wpR (c_Part_words [.ref (k + 2)] (stm q t)) Q E := by
  unfold c_Part_words
  refine wp_fn (by simp) ?_
  walk_at "wp"
  rw [part_fld hp]
  walk_at "wp"
  refine wp_allP n 20 (by omega) h (by omega) (by simp; omega) fun t1 ps e1 hps => ?_
  walk_at "wp"
  have es : ∀ s, seqOf s (.lst (ps.map fun p => .tup [p.1, p.2])) = some (ps.map fun p => .tup [p.1, p.2], any_) := fun s => rfl
  rw [es]
  walk_at "wp"
  have hl := congrArg List.length hps
  rw [List.length_map] at hl
  refine wpI_intro (le_line (by simp; omega)) ?_
  have hall := all_ok h
  rw [lcL_pure (wdP ["say"]) (fun d hd => ?_), wdP_map, hps, hz]
  · walk_at "wp"
    rw [txts_lst (by have := congrArg List.length hz; simp at this; have := List.length_filterMap_le (wd1 ["say"]) (allS n ds); omega)]
    walk_at "wp"
    exact hQ t1 e1
  · obtain ⟨p, hp', rfl⟩ := List.mem_map.mp hd
    obtain ⟨w, its, ed, hs, hc⟩ := wd_cases ks_say (hall p.2 (by rw [← hps]; exact List.mem_map_of_mem hp'))
    refine ⟨_, rfl, ?_⟩
    have g1 : ∀ s, fEq s (.str w) (.str "say") = some (.bl (decide (w = Str.ofString "say"))) := fun s => fEq_str hs (nameOk_dec (z := "say") (by decide)).str
    rcases hc with ⟨hw, z, r, ei, _, e⟩ | ⟨hw, e⟩
    · have ew : w = Str.ofString "say" := by simpa using hw
      rw [show wdP ["say"] (.tup [p.1, p.2]) = wd1 ["say"] p.2 from rfl, e]
      refine ⟨?_, ?_⟩
      · simp only [mTst, mOp, mVar, mC, wipeE, List.set_cons_zero, List.set_cons_succ, List.getElem?_cons_zero, List.getElem?_cons_succ, bnd_ok, ofO_some, ed, ei, fIx_tup, at0, g1, decide_eq_true ew]
      · simp only [mTst, mOp, mVar, mC, wipeE, List.set_cons_zero, List.set_cons_succ, List.getElem?_cons_zero, List.getElem?_cons_succ, bnd_ok, ofO_some, ed, ei, fIx_tup, at1]
    · have ew : ¬ w = Str.ofString "say" := by simpa using hw
      rw [show wdP ["say"] (.tup [p.1, p.2]) = wd1 ["say"] p.2 from rfl, e]
      simp only [mTst, mOp, mVar, mC, wipeE, List.set_cons_zero, List.set_cons_succ, List.getElem?_cons_zero, List.getElem?_cons_succ, bnd_ok, ofO_some, ed, fIx_tup, at0, g1, decide_eq_false ew]
theorem wp_faults_m (hp : PartAt t k ds) (hn : n ≤ 9) (h : ∀ d ∈ ds, StepOk n d) (hcnt : (allS n ds).length ≤ 100) (hz : (allS n ds).filterMap (wd1 ["fault", "catch"]) = zs.map .str)
    (hQ : ∀ t', Ex t t' → Q (.ref (t'.length + 2)) (stm q (t' ++ [.lst ((srt (ddS zs)).map .str)]))) : wpR (c_Part_faults [.ref (k + 2)] (stm q t)) Q E := by
  unfold c_Part_faults
  refine wp_fn (by simp) ?_
  walk_at "wp"
  rw [part_fld hp]
  walk_at "wp"
  refine wp_allP n 20 (by omega) h (by omega) (by simp; omega) fun t1 ps e1 hps => ?_
  walk_at "wp"
  have es : ∀ s, seqOf s (.lst (ps.map fun p => .tup [p.1, p.2])) = some (ps.map fun p => .tup [p.1, p.2], any_) := fun s => rfl
  rw [es]
  walk_at "wp"
  have hl := congrArg List.length hps
  rw [List.length_map] at hl
  refine wpI_intro (le_line (by simp; omega)) ?_
  have hall := all_ok h
  rw [lcL_pure (wdP ["fault", "catch"]) (fun d hd => ?_), wdP_map, hps, hz]
  · walk_at "wp"
    rw [txts_lst (by have := congrArg List.length hz; simp at this; have := List.length_filterMap_le (wd1 ["fault", "catch"]) (allS n ds); omega)]
    walk_at "wp"
    exact hQ t1 e1
  · obtain ⟨p, hp', rfl⟩ := List.mem_map.mp hd
    obtain ⟨w, its, ed, hs, hc⟩ := wd_cases ks_fc (hall p.2 (by rw [← hps]; exact List.mem_map_of_mem hp'))
    refine ⟨_, rfl, ?_⟩
    have g1 : ∀ s, fEq s (.str w) (.str "fault") = some (.bl (decide (w = Str.ofString "fault"))) := fun s => fEq_str hs (nameOk_dec (z := "fault") (by decide)).str
    have g2 : ∀ s, fEq s (.str w) (.str "catch") = some (.bl (decide (w = Str.ofString "catch"))) := fun s => fEq_str hs (nameOk_dec (z := "catch") (by decide)).str
    rcases hc with ⟨hw, z, r, ei, _, e⟩ | ⟨hw, e⟩
    · rw [show wdP ["fault", "catch"] (.tup [p.1, p.2]) = wd1 ["fault", "catch"] p.2 from rfl, e]
      refine ⟨?_, ?_⟩
      · by_cases ew : w = Str.ofString "fault"
        · simp only [mOr, mTst, mOp, mVar, mC, wipeE, List.set_cons_zero, List.set_cons_succ, List.getElem?_cons_zero, List.getElem?_cons_succ, bnd_ok, ofO_some, ed, ei, fIx_tup, at0, g1, decide_eq_true ew, if_true]
        · have ew2 : w = Str.ofString "catch" := by
            rcases (show w = Str.ofString "fault" ∨ w = Str.ofString "catch" by simpa using hw) with h | h
            · exact absurd h ew
            · exact h
          simp only [mOr, mTst, mOp, mVar, mC, wipeE, List.set_cons_zero, List.set_cons_succ, List.getElem?_cons_zero, List.getElem?_cons_succ, bnd_ok, ofO_some, ed, ei, fIx_tup, at0, g1, g2, decide_eq_false ew, decide_eq_true ew2, Bool.false_eq_true, if_false]
      · simp only [mTst, mOp, mVar, mC, wipeE, List.set_cons_zero, List.set_cons_succ, List.getElem?_cons_zero, List.getElem?_cons_succ, bnd_ok, ofO_some, ed, ei, fIx_tup, at1]
    · have ew : ¬ (w = Str.ofString "fault" ∨ w = Str.ofString "catch") := by simpa using hw
      rw [show wdP ["fault", "catch"] (.tup [p.1, p.2]) = wd1 ["fault", "catch"] p.2 from rfl, e]
      simp only [mOr, mTst, mOp, mVar, mC, wipeE, List.set_cons_zero, List.set_cons_succ, List.getElem?_cons_zero, List.getElem?_cons_succ, bnd_ok, ofO_some, ed, fIx_tup, at0, g1, g2, decide_eq_false (fun h => ew (.inl h)), decide_eq_false (fun h => ew (.inr h)), Bool.false_eq_true, if_false]
theorem wp_len_m (hp : PartAt t k ds) (hn : n ≤ 9) (h : ∀ d ∈ ds, StepOk n d) (hcnt : (allS n ds).length ≤ 100)
    (hQ : ∀ t', Ex t t' → Q (.int (allS n ds).length) (stm q t')) : wpR (c_Part_len [.ref (k + 2)] (stm q t)) Q E := by
  unfold c_Part_len
  refine wp_fn (by simp) ?_
  walk_at "wp"
  rw [part_fld hp]
  walk_at "wp"
  refine wp_allP n 20 (by omega) h (by omega) (by simp; omega) fun t1 ps e1 hps => ?_
  walk_at "wp"
  have hl := congrArg List.length hps
  rw [List.length_map] at hl
  have eg : ∀ s, gLen s [.lst (ps.map fun p => .tup [p.1, p.2])] = some (.int ps.length) := fun s => by
    show some (D.int ((ps.map fun p => D.tup [p.1, p.2]).length : Nat)) = _
    rw [List.length_map]
  rw [eg, hl]
  walk_at "wp"
  exact hQ t1 e1
/-- the law's own words -/
theorem wp_words {ks : List Str} (hk : KsOk ks) (hn : n ≤ 9) (h : ∀ d ∈ ds, StepOk n d) (hcnt : (allS n ds).length ≤ 100) (hz : (allS n ds).filterMap (wd1 ks) = zs.map .str)
    (hQ : ∀ t', Ex t t' → Q (.lst ((srt (ddS zs)).map .str)) (stm q t')) : wpR (l_words [.tup ds, .tup (ks.map .str)] (stm q t)) Q E := by
  unfold l_words
  refine wp_fn (by simp) ?_
  walk_at "wp"
  refine wp_all n 20 (by omega) h (by omega) fun t1 e1 => ?_
  walk_at "wp"
  have es : ∀ s, seqOf s (.lst (allS n ds)) = some (allS n ds, any_) := fun s => rfl
  rw [es]
  walk_at "wp"
  refine wpI_intro (le_line (by omega)) ?_
  have hall := all_ok h
  rw [lcL_pure (wd1 ks) (fun d hd => ?_), hz]
  · walk_at "wp"
    rw [txts_lst (by have := congrArg List.length hz; simp at this; have := List.length_filterMap_le (wd1 ks) (allS n ds); omega)]
    walk_at "wp"
    exact hQ t1 e1
  · obtain ⟨w, its, ed, hs, hc⟩ := wd_cases hk (hall d hd)
    refine ⟨_, rfl, ?_⟩
    have g1 : ∀ s, fIn s (.str w) (.tup (ks.map .str)) = some (.bl (decide (w ∈ ks))) := fun s => fIn_strs rfl (fun w => by intro h; cases h)
    rcases hc with ⟨hw, z, r, ei, _, e⟩ | ⟨hw, e⟩
    · rw [e]
      refine ⟨?_, ?_⟩
      · simp only [mTst, mOp, mVar, mC, wipeE, List.set_cons_zero, List.set_cons_succ, List.getElem?_cons_zero, List.getElem?_cons_succ, bnd_ok, ofO_some, ed, ei, fIx_tup, at0, g1, decide_eq_true hw]
      · simp only [mTst, mOp, mVar, mC, wipeE, List.set_cons_zero, List.set_cons_succ, List.getElem?_cons_zero, List.getElem?_cons_succ, bnd_ok, ofO_some, ed, ei, fIx_tup, at1]
    · rw [e]
      simp only [mTst, mOp, mVar, mC, wipeE, List.set_cons_zero, List.set_cons_succ, List.getElem?_cons_zero, List.getElem?_cons_succ, bnd_ok, ofO_some, ed, fIx_tup, at0, g1, decide_eq_false hw]
end
end MP

set_option Elab.async false
set_option linter.all false
set_option maxRecDepth 100000
set_option maxHeartbeats 8000000
/-! PP8: spoiled lists -/
namespace MP
open PySem L2
local macro_rules | `(tactic| walk_at "wp") => `(tactic| try simp only [↓wp_mSeq, ↓wp_mNext, ↓wp_mBrk, ↓wp_mCnt, ↓wp_mExpr, ↓wp_mRet, ↓wp_mRetN, ↓wp_mIf, ↓wp_mSet, ↓wp_mPar, ↓wp_mPar3, ↓wp_mAsg, ↓wp_mFor, ↓wp_mDPut, ↓wp_mFldSet, ↓wp_mVar, ↓wp_mC, ↓wp_mOp, ↓wp_mUn, ↓wp_mNil, ↓wp_mCons, ↓wp_mStar, ↓wp_mTup, ↓wp_mLst, ↓wp_mLstB, ↓wp_mIfE, ↓wp_mTst, ↓wp_mNot, ↓wp_mAnd, ↓wp_mOr, ↓wp_mAndV, ↓wp_mOrV, ↓wp_mNotV, ↓wp_mChain, ↓wp_mCall, ↓wp_mCallB, ↓wpO_pu, ↓wp_mBm, ↓wp_mBm0, ↓wp_moN, ↓wp_moS, ↓wp_mSl, ↓wp_mIsi, ↓wp_mTab, ↓wp_mTabIn, ↓wp_mTabNotIn, ↓wp_mDGet, ↓wp_mDGet2, ↓wp_mDNew, ↓wp_mSortSet, ↓wp_mSortSetB, ↓wp_mLenSet, ↓wp_mFrz, ↓wp_mFld, ↓wp_mMeth, ↓wp_mMake, ↓wp_mLenO, ↓wp_mEqO, ↓wp_mNeO, ↓wp_mLc, ↓wp_mLcB, ↓wp_miSeq, ↓wp_miRng, ↓wp_miZip, ↓wp_miEnum, ↓wp_gmName, ↓wp_gmNil, ↓wp_gmCons, ↓wp_gmTup, ↓wp_gmSub, ↓wp_mYes, ↓wpR_ok, wpO_some, wpB_true, wpB_false, wpB_not, wpI_true, asB_bl, asI_int, asT_tup, asS_str, two_two, three_three, isNon_non, cI_int, pad, wipeE, List.getElem?_cons_zero, List.getElem?_cons_succ, List.set_cons_zero, List.set_cons_succ, fAdd_int, fSub_int, fLt_int, fLe_int, fGt_int, fGe_int, fEq_int, fNe_int, fNeg_int, stm_ix0, stm_ix1, stm_ix2, stm_ix3, stm_set1, stm_set2, stm_set3, stm_ne, stm_tyL0, gInt_int, tyS_str, stm_len, stm_app])
mutual
theorem Ls.keepIn {t t' : Sto} : ∀ {lo hi : Nat} {g d : D}, (∀ i, lo ≤ i → i < hi → t'[i]? = t[i]?) → Ls t lo hi g d → Ls t' lo hi g d
  | _, _, _, _, _, .int h => .int h
  | _, _, _, _, _, .str h => .str h
  | _, _, _, _, e, .tup h => .tup (h.keepIn e)
  | _, _, _, _, e, .box hp h hh => .box (by rw [e _ h.le hh]; exact hp) (h.keepIn fun i h1 h2 => e i h1 (Nat.lt_trans h2 hh)) hh
theorem LsL.keepIn {t t' : Sto} : ∀ {lo hi : Nat} {g d : List D}, (∀ i, lo ≤ i → i < hi → t'[i]? = t[i]?) → LsL t lo hi g d → LsL t' lo hi g d
  | _, _, _, _, _, .nil h => .nil h
  | _, _, _, _, e, .cons h r => .cons (h.keepIn fun i h1 h2 => e i h1 (Nat.lt_of_lt_of_le h2 r.le)) (r.keepIn fun i h1 h2 => e i (Nat.le_trans h.le h1) h2)
end
structure Chg (lo hi : Nat) (t t' : Sto) : Prop where
  len : t'.length = t.length
  at_ : ∀ i, i < lo ∨ hi ≤ i → t'[i]? = t[i]?
theorem Chg.refl {lo hi : Nat} {t : Sto} : Chg lo hi t t := ⟨rfl, fun _ _ => rfl⟩
theorem Chg.trans {lo m hi : Nat} {t t1 t2 : Sto} (a : Chg lo m t t1) (b : Chg m hi t1 t2) (h1 : lo ≤ m) (h2 : m ≤ hi) : Chg lo hi t t2 := ⟨b.len.trans a.len, fun i h => by
  rw [b.at_ i (by omega), a.at_ i (by omega)]⟩
theorem Chg.up {lo hi hi' : Nat} {t t' : Sto} (a : Chg lo hi t t') (h : hi ≤ hi') : Chg lo hi' t t' := ⟨a.len, fun i h' => a.at_ i (by omega)⟩
theorem wp_spoil : ∀ (n N : Nat), n < N → ∀ {q : Sp0} {t : Sto} {lo hi : Nat} {g d : D} {Q : D → Sto → Prop} {E : XP}, Pd n d → Ls t lo hi g d → (∀ x t', Chg lo hi t t' → Q x (stm q t')) → wpR (l_spoil N [g] (stm q t)) Q E := by
  intro n
  induction n with
  | zero =>
    intro N hN q t lo hi g d Q E hp hl hQ
    obtain ⟨N, rfl⟩ : ∃ M, N = M + 1 := ⟨N - 1, by omega⟩
    unfold l_spoil
    refine wp_fn (by simp) ?_
    cases hl with
    | @int _ _ i h =>
      walk_at "wp"
      have e : (kdD (stm q t) (.int i)).bind (fB ["list", "tuple"]) = some false := rfl
      have e2 : (kdD (stm q t) (.int i)).bind (fB ["list"]) = some false := rfl
      rw [e]
      walk_at "wp"
      rw [e2]
      walk_at "wp"
      exact hQ _ t Chg.refl
    | @str _ _ z h =>
      walk_at "wp"
      have e : (kdD (stm q t) (.str z)).bind (fB ["list", "tuple"]) = some false := rfl
      have e2 : (kdD (stm q t) (.str z)).bind (fB ["list"]) = some false := rfl
      rw [e]
      walk_at "wp"
      rw [e2]
      walk_at "wp"
      exact hQ _ t Chg.refl
    | tup _ => exact hp.elim
    | box _ _ _ => exact hp.elim
  | succ n ih =>
    intro N hN q t lo hi g d Q E hp hl hQ
    obtain ⟨N, rfl⟩ : ∃ M, N = M + 1 := ⟨N - 1, by omega⟩
    unfold l_spoil
    refine wp_fn (by simp) ?_
    have loop : ∀ {hi' : Nat} {gs ds : List D} {ρ0 : Option D} {N' : Env → Sto → Prop} {Rt : D → Sto → Prop} {B C : Env → Sto → Prop} {E' : Xc → Env → Sto → Prop}, LsL t lo hi' gs ds → (∀ d ∈ ds, Pd n d) → (∀ t' o, Chg lo hi' t t' → N' [some g, o] (stm q t')) → wpS (forL any_ (gmName 1) (mExpr (mCall (l_spoil N) (mCons (mVar 1) mNil))) gs [some g, ρ0] (stm q t)) N' Rt B C E' := by
      intro hi' gs ds ρ0 N' Rt B C E' hls hds hN'
      refine wp_for (fun rest ρ s => ∃ (t2 : Sto) (m : Nat) (rd : List D) (o : Option D), ρ = [some g, o] ∧ s = stm q t2 ∧ LsL t m hi' rest rd ∧ lo ≤ m ∧ Chg lo m t t2 ∧ ∀ d ∈ rd, Pd n d) ?_ ?_ ⟨t, lo, ds, ρ0, rfl, rfl, hls, Nat.le_refl _, Chg.refl, hds⟩
      · rintro x rest ρ s ⟨t2, m, rd, o, rfl, rfl, hr, hm, hc, hpd⟩
        refine ⟨trivial, ?_⟩
        cases hr with
        | @cons _ m' _ _ d' _ rd' h r =>
          walk_at "wp"
          refine ih N (by omega) (hpd d' List.mem_cons_self) (h.keepIn fun i h1 h2 => hc.at_ i (.inr h1)) fun y t3 hc3 => ?_
          exact ⟨t3, m', rd', _, rfl, rfl, r, Nat.le_trans hm h.le, hc.trans hc3 hm h.le, fun d hd => hpd d (List.mem_cons_of_mem _ hd)⟩
      · rintro ρ s ⟨t2, m, rd, o, rfl, rfl, hr, hm, hc, hpd⟩
        exact ⟨trivial, hN' t2 o (hc.up hr.le)⟩
    cases hl with
    | @int _ _ i h =>
      walk_at "wp"
      have e : (kdD (stm q t) (.int i)).bind (fB ["list", "tuple"]) = some false := rfl
      have e2 : (kdD (stm q t) (.int i)).bind (fB ["list"]) = some false := rfl
      rw [e]
      walk_at "wp"
      rw [e2]
      walk_at "wp"
      exact hQ _ t Chg.refl
    | @str _ _ z h =>
      walk_at "wp"
      have e : (kdD (stm q t) (.str z)).bind (fB ["list", "tuple"]) = some false := rfl
      have e2 : (kdD (stm q t) (.str z)).bind (fB ["list"]) = some false := rfl
      rw [e]
      walk_at "wp"
      rw [e2]
      walk_at "wp"
      exact hQ _ t Chg.refl
    | @tup _ _ gs ds h =>
      obtain ⟨hlen, hpd⟩ := hp
      walk_at "wp"
      have e : ∀ s, (kdD s (.tup gs)).bind (fB ["list", "tuple"]) = some true := fun s => rfl
      have e2 : ∀ s, (kdD s (.tup gs)).bind (fB ["list"]) = some false := fun s => rfl
      rw [e]
      walk_at "wp"
      have eg : ∀ s, gList s [.tup gs] = some (.lst gs) := fun s => rfl
      rw [eg]
      walk_at "wp"
      have es : ∀ s, seqOf s (.lst gs) = some (gs, any_) := fun s => rfl
      rw [es]
      walk_at "wp"
      refine loop h hpd fun t' o hc => ?_
      walk_at "wp"
      rw [e2]
      walk_at "wp"
      exact hQ _ t' hc
    | @box _ _ p gs ds hb h hh =>
      obtain ⟨hlen, hpd⟩ := hp
      have hgl := h.len
      walk_at "wp"
      have e : (kdD (stm q t) (.ref (p + 2))).bind (fB ["list", "tuple"]) = some true := by rw [kd_stm hb]; rfl
      rw [e]
      walk_at "wp"
      have eg : gList (stm q t) [.ref (p + 2)] = some (.lst gs) := by
        show (items? (stm q t) (.ref (p + 2))).map D.lst = _
        rw [items_stm hb]
        rfl
      rw [eg]
      walk_at "wp"
      have es : ∀ s, seqOf s (.lst gs) = some (gs, any_) := fun s => rfl
      rw [es]
      walk_at "wp"
      refine loop h hpd fun t' o hc => ?_
      have hb' : t'[p]? = some (.lst gs) := by rw [hc.at_ p (.inr (Nat.le_refl _))]; exact hb
      walk_at "wp"
      have e2 : (kdD (stm q t') (.ref (p + 2))).bind (fB ["list"]) = some true := by rw [kd_stm hb']; rfl
      rw [e2]
      walk_at "wp"
      rw [tyL_stm hb']
      walk_at "wp"
      rw [app_stm hb' (by omega)]
      walk_at "wp"
      have hle := h.le
      exact hQ _ _ ⟨by simp [hc.len], fun i hi' => by rw [List.getElem?_set_ne (by omega)]; exact hc.at_ i (by omega)⟩
end MP

set_option Elab.async false
set_option linter.all false
set_option maxRecDepth 100000
set_option maxHeartbeats 8000000
/-! PP9: repr, == of plain data -/
namespace MP
open PySem L2
local macro_rules | `(tactic| walk_at "wp") => `(tactic| try simp only [↓wp_mSeq, ↓wp_mNext, ↓wp_mBrk, ↓wp_mCnt, ↓wp_mExpr, ↓wp_mRet, ↓wp_mRetN, ↓wp_mIf, ↓wp_mSet, ↓wp_mPar, ↓wp_mPar3, ↓wp_mAsg, ↓wp_mFor, ↓wp_mDPut, ↓wp_mFldSet, ↓wp_mVar, ↓wp_mC, ↓wp_mOp, ↓wp_mUn, ↓wp_mNil, ↓wp_mCons, ↓wp_mStar, ↓wp_mTup, ↓wp_mLst, ↓wp_mLstB, ↓wp_mIfE, ↓wp_mTst, ↓wp_mNot, ↓wp_mAnd, ↓wp_mOr, ↓wp_mAndV, ↓wp_mOrV, ↓wp_mNotV, ↓wp_mChain, ↓wp_mCall, ↓wp_mCallB, ↓wpO_pu, ↓wp_mBm, ↓wp_mBm0, ↓wp_moN, ↓wp_moS, ↓wp_mSl, ↓wp_mIsi, ↓wp_mTab, ↓wp_mTabIn, ↓wp_mTabNotIn, ↓wp_mDGet, ↓wp_mDGet2, ↓wp_mDNew, ↓wp_mSortSet, ↓wp_mSortSetB, ↓wp_mLenSet, ↓wp_mFrz, ↓wp_mFld, ↓wp_mMeth, ↓wp_mMake, ↓wp_mLenO, ↓wp_mEqO, ↓wp_mNeO, ↓wp_mLc, ↓wp_mLcB, ↓wp_miSeq, ↓wp_miRng, ↓wp_miZip, ↓wp_miEnum, ↓wp_gmName, ↓wp_gmNil, ↓wp_gmCons, ↓wp_gmTup, ↓wp_gmSub, ↓wp_mYes, ↓wpR_ok, wpO_some, wpB_true, wpB_false, wpB_not, wpI_true, asB_bl, asI_int, asT_tup, asS_str, two_two, three_three, isNon_non, cI_int, pad, wipeE, List.getElem?_cons_zero, List.getElem?_cons_succ, List.set_cons_zero, List.set_cons_succ, fAdd_int, fSub_int, fLt_int, fLe_int, fGt_int, fGe_int, fEq_int, fNe_int, fNeg_int, stm_ix0, stm_ix1, stm_ix2, stm_ix3, stm_set1, stm_set2, stm_set3, stm_ne, stm_tyL0, gInt_int, tyS_str, stm_len, stm_app])
mutual
def sd : D → Nat
  | .int _ => 1921
  | .str z => 10 * z.length + 2
  | .bl _ => 5
  | .tup l => 4 + sdL l
  | .lst l => 4 + sdL l
  | _ => 5
def sdL : List D → Nat
  | [] => 0
  | d :: ds => sd d + 2 + sdL ds
end
def Pr : Nat → D → Prop
  | _, .int i => i.natAbs < 10 ^ 30
  | _, .str z => ∀ c ∈ z.cps.toList, c < 1114112
  | _, .bl _ => True
  | n + 1, .tup ds => ds.length ≤ 1000 ∧ ∀ d ∈ ds, Pr n d
  | n + 1, .lst ds => ds.length ≤ 1000 ∧ ∀ d ∈ ds, Pr n d
  | _, _ => False
/-- what is shown of it -/
structure Shows (p : PyData) (m : Nat) : Prop where
  ok : p.showable = true
  len : p.shown.length ≤ m
theorem text_from_le : ∀ (ts : List Str) (k : Nat) (acc : Str), (textFrom k acc ts).length ≤ acc.length + (ts.map fun t => t.length + 2).sum
  | [], _, acc => by simp [textFrom]
  | t :: ts, k, acc => by
    have ih := text_from_le ts (k + 1) (acc ++ (if k > 0 then ", " else "" : String) ++ t)
    have e : (acc ++ (if k > 0 then ", " else "" : String) ++ t).length ≤ acc.length + 2 + t.length := by
      rw [str_len_app, str_len_app]
      have : (Str.ofString (if k > 0 then ", " else "")).length ≤ 2 := by split <;> decide
      omega
    rw [textFrom, List.map_cons, List.sum_cons]
    omega
theorem list_text_le (ts : List Str) : (listText ts).length ≤ 4 + (ts.map fun t => t.length + 2).sum := by
  unfold listText
  rw [str_len_app]
  have h := text_from_le ts 0 "["
  have e1 : (Str.ofString "[").length = 1 := by decide
  have e2 : (Str.ofString "]").length = 1 := by decide
  omega
theorem join_le : ∀ ts : List Str, (Str.join ", " ts).length ≤ (ts.map fun t => t.length + 2).sum
  | [] => by decide
  | [x] => by simp [Str.join]
  | x :: y :: r => by
    have ih := join_le (y :: r)
    show (x ++ ", " ++ Str.join ", " (y :: r)).length ≤ _
    rw [str_len_app, str_len_app, List.map_cons, List.sum_cons]
    have e2 : (Str.ofString ", ").length = 2 := by decide
    omega
theorem tuple_text_le (ts : List Str) : (tupleText ts).length ≤ 4 + (ts.map fun t => t.length + 2).sum := by
  unfold tupleText
  rw [str_len_app, str_len_app]
  have h := join_le ts
  have e1 : (Str.ofString "(").length = 1 := by decide
  have e2 : (Str.ofString (if ts.length == 1 then ",)" else ")")).length ≤ 2 := by split <;> decide
  omega
inductive ShowsAll : List PyData → Nat → Prop where
  | nil : ShowsAll [] 0
  | cons {p : PyData} {ps : List PyData} {m k : Nat} (h : Shows p m) (r : ShowsAll ps k) : ShowsAll (p :: ps) (m + 2 + k)
theorem ShowsAll.ok {ps : List PyData} {m : Nat} (h : ShowsAll ps m) : PyData.showableAll ps = true ∧ ((PyData.shownAll ps).map fun t => t.length + 2).sum ≤ m := by
  induction h with
  | nil => exact ⟨rfl, by simp [PyData.shownAll]⟩
  | cons h r ih =>
    refine ⟨by simp [PyData.showableAll, h.ok, ih.1], ?_⟩
    rw [PyData.shownAll, List.map_cons, List.sum_cons]
    have := h.len
    have := ih.2
    omega
theorem ShowsAll.lst {ps : List PyData} {m : Nat} (h : ShowsAll ps m) : Shows (.list ps) (4 + m) := by
  obtain ⟨h1, h2⟩ := h.ok
  refine ⟨by simp [PyData.showable, h1], ?_⟩
  rw [PyData.shown]
  have := list_text_le (PyData.shownAll ps)
  omega
theorem ShowsAll.tup {ps : List PyData} {m : Nat} (h : ShowsAll ps m) : Shows (.tuple ps) (4 + m) := by
  obtain ⟨h1, h2⟩ := h.ok
  refine ⟨by simp [PyData.showable, h1], ?_⟩
  rw [PyData.shown]
  have := tuple_text_le (PyData.shownAll ps)
  omega
theorem log_small {i : Int} (h : i.natAbs < 10 ^ 30) : i.natAbs.log2 < 1920 := by
  by_cases h0 : i.natAbs = 0
  · rw [h0]; decide
  · have : i.natAbs < 2 ^ 1920 := Nat.lt_of_lt_of_le h (Nat.le_trans (show 10 ^ 30 ≤ 2 ^ 200 by decide) (Nat.pow_le_pow_right (by decide) (by decide)))
    exact (Nat.log2_lt h0).mpr this
theorem shows_int {i : Int} (h : i.natAbs < 10 ^ 30) : Shows (.int i) 1921 := ⟨by simp only [PyData.showable]; exact decide_eq_true (log_small h), by
  rw [PyData.shown]
  exact PyProof.Rows.int_text_len_1921 (log_small h)⟩
theorem shows_str {z : Str} (h : ∀ c ∈ z.cps.toList, c < 1114112) : Shows (.str z) (10 * z.length + 2) := ⟨rfl, by
  rw [PyData.shown]
  exact StrLaws.reprText_len z fun c hc => Nat.lt_of_lt_of_le (h c hc) (by decide)⟩
theorem shows_bl {b : Bool} : Shows (.bool b) 5 := ⟨rfl, by rw [PyData.shown]; cases b <;> decide⟩
/-- plain data as the model reads it -/
structure Reads (s : Sto) (n : Nat) (d : D) (p : PyData) : Prop where
  f : ∀ N, n < N → pyF N s d = some p
  py : d.py = some p
  lay : p.canLay0 = true
  dep : p.depth ≤ n
  sh : Shows p (sd d)
theorem mapM_all {f : D → Option PyData} : ∀ {ds : List D} {ps : List PyData}, Paired (fun d p => f d = some p) ds ps → ds.mapM f = some ps
  | _, _, .nil => rfl
  | _, _, .cons h r => by rw [List.mapM_cons, h, mapM_all r]; rfl
theorem pyL_all : ∀ {ds : List D} {ps : List PyData}, Paired (fun d p => d.py = some p) ds ps → pyL ds = some ps
  | _, _, .nil => rfl
  | _, _, .cons h r => by rw [pyL, h, pyL_all r]
theorem reads_all {s : Sto} {n : Nat} : ∀ {ds : List D}, (∀ d ∈ ds, ∃ p, Reads s n d p) → ∃ ps, Paired (Reads s n) ds ps
  | [], _ => ⟨[], .nil⟩
  | d :: ds, h => by
    obtain ⟨p, hp⟩ := h d List.mem_cons_self
    obtain ⟨ps, hps⟩ := reads_all fun x hx => h x (List.mem_cons_of_mem _ hx)
    exact ⟨p :: ps, .cons hp hps⟩
theorem lay_all {s : Sto} {n : Nat} : ∀ {ds : List D} {ps : List PyData}, Paired (Reads s n) ds ps → PyData.canLayAll0 ps = true ∧ PyData.depthAll ps ≤ n ∧ ShowsAll ps (sdL ds)
  | _, _, .nil => ⟨rfl, Nat.zero_le _, .nil⟩
  | _, _, .cons h r => by
    obtain ⟨h1, h2, h3⟩ := lay_all r
    exact ⟨by simp [PyData.canLayAll0, h.lay, h1], by simp only [PyData.depthAll]; have := h.dep; omega, .cons h.sh h3⟩
theorem reads_seq {s : Sto} {n : Nat} {ds : List D} (h : ∀ d ∈ ds, ∃ p, Reads s n d p) : (∃ ps, Reads s (n + 1) (.tup ds) (.tuple ps)) ∧ ∃ ps, Reads s (n + 1) (.lst ds) (.list ps) := by
  obtain ⟨ps, hps⟩ := reads_all h
  obtain ⟨h1, h2, h3⟩ := lay_all hps
  have hf : ∀ N, n < N → ds.mapM (pyF N s) = some ps := fun N hN => mapM_all (Paired.mapP hps fun _ _ q => q.f N hN)
  have hy : pyL ds = some ps := pyL_all (Paired.mapP hps fun _ _ q => q.py)
  refine ⟨⟨ps, fun N hN => ?_, ?_, ?_, ?_, ?_⟩, ⟨ps, fun N hN => ?_, ?_, ?_, ?_, ?_⟩⟩
  · obtain ⟨M, rfl⟩ : ∃ M, N = M + 1 := ⟨N - 1, by omega⟩
    show (ds.mapM (pyF M s)).map PyData.tuple = _
    rw [hf M (by omega)]; rfl
  · show (pyL ds).map PyData.tuple = _
    rw [hy]; rfl
  · simpa [PyData.canLay0] using h1
  · simp only [PyData.depth]; omega
  · rw [sd]; exact h3.tup
  · obtain ⟨M, rfl⟩ : ∃ M, N = M + 1 := ⟨N - 1, by omega⟩
    show (ds.mapM (pyF M s)).map PyData.list = _
    rw [hf M (by omega)]; rfl
  · show (pyL ds).map PyData.list = _
    rw [hy]; rfl
  · simpa [PyData.canLay0] using h1
  · simp only [PyData.depth]; omega
  · rw [sd]; exact h3.lst
theorem pr_reads {s : Sto} : ∀ (n : Nat) {d : D}, Pr n d → ∃ p, Reads s n d p := by
  intro n
  have base : ∀ (n : Nat) {d : D}, (match d with | .int i => i.natAbs < 10 ^ 30 | .str z => (∀ c ∈ z.cps.toList, c < 1114112) | .bl _ => True | _ => False) → ∃ p, Reads s n d p := fun n {d} h => by
    cases d with
    | int i => exact ⟨.int i, fun N hN => by obtain ⟨M, rfl⟩ : ∃ M, N = M + 1 := ⟨N - 1, by omega⟩; rfl, rfl, rfl, by simp [PyData.depth], by rw [sd]; exact shows_int h⟩
    | str z => exact ⟨.str z, fun N hN => by obtain ⟨M, rfl⟩ : ∃ M, N = M + 1 := ⟨N - 1, by omega⟩; rfl, rfl, by simp only [PyData.canLay0]; exact strOk_of (List.all_eq_true.mpr fun c hc => by simpa using h c hc), by simp [PyData.depth], by rw [sd]; exact shows_str h⟩
    | bl b => exact ⟨.bool b, fun N hN => by obtain ⟨M, rfl⟩ : ∃ M, N = M + 1 := ⟨N - 1, by omega⟩; rfl, rfl, rfl, by simp [PyData.depth], by rw [sd]; exact shows_bl⟩
    | _ => exact h.elim
  induction n with
  | zero =>
    intro d h
    cases d with
    | int i => exact base 0 (d := .int i) h
    | str z => exact base 0 (d := .str z) h
    | bl b => exact base 0 (d := .bl b) trivial
    | _ => exact h.elim
  | succ n ih =>
    intro d h
    cases d with
    | int i => exact base _ (d := .int i) h
    | str z => exact base _ (d := .str z) h
    | bl b => exact base _ (d := .bl b) trivial
    | tup ds =>
      obtain ⟨ps, hp⟩ := (reads_seq fun d hd => ih (h.2 d hd)).1
      exact ⟨_, hp⟩
    | lst ds =>
      obtain ⟨ps, hp⟩ := (reads_seq fun d hd => ih (h.2 d hd)).2
      exact ⟨_, hp⟩
    | _ => exact h.elim
/-- steps are plain data -/
theorem name_pr {n : Nat} {z : Str} (h : NameOk z) : Pr n (.str z) := by
  cases n <;> exact fun c hc => by have := h.all c hc; omega
theorem word_pr {n : Nat} {w sh : Str} (h : T_SHAPES.lookup w = some sh) : Pr n (.str w) ∧ w.length ≤ 7 := by
  have hm := lookup_mem h
  have key : ∀ p ∈ T_SHAPES, p.1.length ≤ 7 ∧ ∀ c ∈ p.1.cps.toList, c < 1114112 := by decide
  exact ⟨by cases n <;> exact (key _ hm).2, (key _ hm).1⟩
theorem int_pr {n : Nat} {i : Int} (h : i.natAbs < 10 ^ 30) : Pr n (.int i) := by cases n <;> exact h
theorem sd_names : ∀ {zs : List Str}, (∀ z ∈ zs, NameOk z) → sdL (zs.map .str) ≤ 84 * zs.length
  | [], _ => by simp [sdL]
  | z :: zs, h => by
    have ih := sd_names fun x hx => h x (List.mem_cons_of_mem _ hx)
    have := (h z List.mem_cons_self).hi
    rw [List.map_cons, sdL, sd, List.length_cons]
    have : z.length = z.cps.size := rfl
    omega
def cl (n c : Nat) (d : D) : Nat := if c = 108 then (match d with
  | .tup l => (allS n l).length
  | _ => 0) else 0
theorem lst_len : ∀ {n : Nat} {cs : List Nat} {its : List D}, ((lstsOf cs its).flatMap (allS n)).length = (List.zipWith (cl n) cs its).sum
  | _, [], _ => by simp [lstsOf]
  | _, _ :: _, [] => by simp [lstsOf]
  | n, c :: cs, d :: its => by
    rw [show lstsOf (c :: cs) (d :: its) = (if c = 108 then (match d with | .tup l => [l] | _ => []) else []) ++ lstsOf cs its from rfl, List.flatMap_append, List.length_append, lst_len (n := n) (cs := cs) (its := its), List.zipWith_cons_cons, List.sum_cons]
    congr 1
    unfold cl
    by_cases e : c = 108
    · rw [if_pos e, if_pos e]
      cases d <;> simp
    · rw [if_neg e, if_neg e]; rfl
theorem items_pr {n : Nat} (ih : ∀ {d : D}, StepOk n d → (allS n [d]).length ≤ 1000 → Pr (2 * n) d ∧ sd d + 2 ≤ 12000 * (allS n [d]).length) : ∀ {cs : List Nat} {its : List D}, Paired (ItOk (StepOk n)) cs its → ((lstsOf cs its).flatMap (allS n)).length ≤ 1000 → (∀ d ∈ its, Pr (2 * n + 1) d) ∧ sdL its ≤ 1930 * its.length + 12000 * ((lstsOf cs its).flatMap (allS n)).length
  | _, _, .nil, _ => ⟨by simp, by simp [sdL]⟩
  | _, _, .cons (a := c) (b := d) (l₁ := cs) (l₂ := its) hc r, h => by
    rw [lst_len, List.zipWith_cons_cons, List.sum_cons] at h ⊢
    rw [← lst_len] at h ⊢
    obtain ⟨h1, h2⟩ := items_pr ih r (by omega)
    have one : Pr (2 * n + 1) d ∧ sd d + 2 ≤ 1930 + 12000 * cl n c d := by
      cases hc with
      | w hz => exact ⟨name_pr hz, by have := hz.hi; rw [sd]; have e : ∀ z : Str, z.length = z.cps.size := fun _ => rfl; rw [e]; omega⟩
      | c hz => exact ⟨name_pr hz, by have := hz.hi; rw [sd]; have e : ∀ z : Str, z.length = z.cps.size := fun _ => rfl; rw [e]; omega⟩
      | f hz _ => exact ⟨name_pr hz, by have := hz.hi; rw [sd]; have e : ∀ z : Str, z.length = z.cps.size := fun _ => rfl; rw [e]; omega⟩
      | n hi => exact ⟨int_pr hi, by rw [sd]; omega⟩
      | @t i h1 h2 =>
        have e30 : (10 : Nat) ^ 30 = 1000000000000000000000000000000 := by decide
        have hi : i.natAbs < 10 ^ 30 := by rw [e30]; omega
        exact ⟨int_pr hi, by rw [sd]; omega⟩
      | @h zs z1 z2 z3 =>
        refine ⟨⟨by simp; omega, fun d hd => ?_⟩, ?_⟩
        · obtain ⟨z, hz, rfl⟩ := List.mem_map.mp hd
          exact name_pr (z3 z hz)
        · have := sd_names z3
          rw [sd]
          omega
      | @l ss hss =>
        have ecl : cl n 108 (.tup ss) = (allS n ss).length := rfl
        rw [ecl] at h ⊢
        have key : ∀ {ss : List D}, (∀ x ∈ ss, StepOk n x) → (allS n ss).length ≤ 1000 → (∀ x ∈ ss, Pr (2 * n) x) ∧ sdL ss ≤ 12000 * (allS n ss).length ∧ ss.length ≤ (allS n ss).length := by
          intro ss
          induction ss with
          | nil => intro _ _; exact ⟨by simp, by simp [sdL], by simp⟩
          | cons x ss ih2 =>
            intro h1 h2
            have hx := h1 x List.mem_cons_self
            rw [show x :: ss = [x] ++ ss from rfl, allS_app, List.length_append] at h2 ⊢
            obtain ⟨a1, a2⟩ := ih hx (by omega)
            obtain ⟨b1, b2, b3⟩ := ih2 (fun y hy => h1 y (List.mem_cons_of_mem _ hy)) (by omega)
            have c1 : 1 ≤ (allS n [x]).length := by
              cases n with
              | zero => exact hx.elim
              | succ n => rw [allS_one]; simp
            refine ⟨fun y hy => ?_, ?_, by simp; omega⟩
            · rcases List.mem_cons.mp hy with rfl | hy
              · exact a1
              · exact b1 y hy
            · show sd x + 2 + sdL ss ≤ _
              omega
        obtain ⟨a1, a2, a3⟩ := key hss (by omega)
        exact ⟨⟨by omega, a1⟩, by rw [sd]; omega⟩
    refine ⟨fun x hx => ?_, ?_⟩
    · rcases List.mem_cons.mp hx with rfl | hx
      · exact one.1
      · exact h1 x hx
    · rw [sdL, List.length_cons]
      have := one.2
      omega
theorem step_pr : ∀ (n : Nat) {d : D}, StepOk n d → (allS n [d]).length ≤ 1000 → Pr (2 * n) d ∧ sd d + 2 ≤ 12000 * (allS n [d]).length
  | 0, _, h, _ => h.elim
  | n + 1, d, h, hc => by
    obtain ⟨w, sh, its, rfl, h1, h2⟩ := h
    rw [allS_one, inner_mk h1 rfl, List.length_cons] at hc ⊢
    obtain ⟨a, b⟩ := items_pr (fun {d} h hc => step_pr n h hc) h2 (by omega)
    obtain ⟨w1, w2⟩ := word_pr (n := 2 * n + 1) h1
    have hl := pr_len h2
    have hsh := shape_len h1
    refine ⟨⟨by simp; omega, fun x hx => ?_⟩, ?_⟩
    · rcases List.mem_cons.mp hx with rfl | hx
      · exact w1
      · exact a x hx
    · rw [sd, sdL, sd]
      omega
theorem steps_pr {n : Nat} : ∀ {ds : List D}, (∀ d ∈ ds, StepOk n d) → (allS n ds).length ≤ 1000 → (∀ d ∈ ds, Pr (2 * n) d) ∧ sdL ds ≤ 12000 * (allS n ds).length
  | [], _, _ => ⟨by simp, by simp [sdL]⟩
  | d :: ds, h, hc => by
    rw [show d :: ds = [d] ++ ds from rfl, allS_app, List.length_append] at hc ⊢
    obtain ⟨a1, a2⟩ := step_pr n (h d List.mem_cons_self) (by omega)
    obtain ⟨b1, b2⟩ := steps_pr (fun x hx => h x (List.mem_cons_of_mem _ hx)) (show (allS n ds).length ≤ 1000 by omega)
    refine ⟨fun x hx => ?_, ?_⟩
    · rcases List.mem_cons.mp hx with rfl | hx
      · exact a1
      · exact b1 x hx
    · show sd d + 2 + sdL ds ≤ _
      omega
end MP

set_option Elab.async false
set_option linter.all false
set_option maxRecDepth 100000
set_option maxHeartbeats 8000000
/-! PZ1: what a part tells, parts made and compared, told alike -/
namespace MP
open PySem L2
local macro_rules | `(tactic| walk_at "wp") => `(tactic| try simp only [↓wp_mSeq, ↓wp_mNext, ↓wp_mBrk, ↓wp_mCnt, ↓wp_mExpr, ↓wp_mRet, ↓wp_mRetN, ↓wp_mIf, ↓wp_mSet, ↓wp_mPar, ↓wp_mPar3, ↓wp_mAsg, ↓wp_mFor, ↓wp_mDPut, ↓wp_mFldSet, ↓wp_mVar, ↓wp_mC, ↓wp_mOp, ↓wp_mUn, ↓wp_mNil, ↓wp_mCons, ↓wp_mStar, ↓wp_mTup, ↓wp_mLst, ↓wp_mLstB, ↓wp_mIfE, ↓wp_mTst, ↓wp_mNot, ↓wp_mAnd, ↓wp_mOr, ↓wp_mAndV, ↓wp_mOrV, ↓wp_mNotV, ↓wp_mChain, ↓wp_mCall, ↓wp_mCallB, ↓wpO_pu, ↓wp_mBm, ↓wp_mBm0, ↓wp_moN, ↓wp_moS, ↓wp_mSl, ↓wp_mIsi, ↓wp_mTab, ↓wp_mTabIn, ↓wp_mTabNotIn, ↓wp_mDGet, ↓wp_mDGet2, ↓wp_mDNew, ↓wp_mSortSet, ↓wp_mSortSetB, ↓wp_mLenSet, ↓wp_mFrz, ↓wp_mFld, ↓wp_mMeth, ↓wp_mMake, ↓wp_mLenO, ↓wp_mEqO, ↓wp_mNeO, ↓wp_mLc, ↓wp_mLcB, ↓wp_miSeq, ↓wp_miRng, ↓wp_miZip, ↓wp_miEnum, ↓wp_gmName, ↓wp_gmNil, ↓wp_gmCons, ↓wp_gmTup, ↓wp_gmSub, ↓wp_mYes, ↓wpR_ok, wpO_some, wpB_true, wpB_false, wpB_not, wpI_true, asB_bl, asI_int, asT_tup, asS_str, two_two, three_three, isNon_non, cI_int, pad, wipeE, List.getElem?_cons_zero, List.getElem?_cons_succ, List.set_cons_zero, List.set_cons_succ, fAdd_int, fSub_int, fLt_int, fLe_int, fGt_int, fGe_int, fEq_int, fNe_int, fNeg_int, stm_ix0, stm_ix1, stm_ix2, stm_ix3, stm_set1, stm_set2, stm_set3, stm_ne, stm_tyL0, gInt_int, tyS_str, stm_len, stm_app])
theorem Pool.ext {t t' : Sto} {p : Nat} (h : Pool t p) (e : Ex t t') : Pool t' p := by
  obtain ⟨a, b, c, ca, wa, fa, P⟩ := h
  exact ⟨a, b, c, ca, wa, fa, ⟨e.keep _ _ P.d, e.keep _ _ P.a, e.keep _ _ P.b, e.keep _ _ P.c, P.an, P.al, P.bl, P.cl, P.ao, P.bo, P.co⟩⟩
theorem PartAt.ext {t t' : Sto} {k : Nat} {ds : List D} (h : PartAt t k ds) (e : Ex t t') : PartAt t' k ds := e.keep _ _ h
/-- steps as plain data without lists -/
theorem items_pd {n : Nat} (ih : ∀ {d : D}, StepOk n d → (allS n [d]).length ≤ 1000 → Pd (2 * n) d) : ∀ {cs : List Nat} {its : List D}, Paired (ItOk (StepOk n)) cs its → ((lstsOf cs its).flatMap (allS n)).length ≤ 1000 → ∀ d ∈ its, Pd (2 * n + 1) d
  | _, _, .nil, _, d, hd => by cases hd
  | _, _, .cons (a := c) (b := d0) (l₁ := cs) (l₂ := its) hc r, h, d, hd => by
    rw [lst_len, List.zipWith_cons_cons, List.sum_cons, ← lst_len] at h
    rcases List.mem_cons.mp hd with rfl | hd
    · cases hc with
      | w hz => trivial
      | c hz => trivial
      | f hz _ => trivial
      | n hi => trivial
      | t h1 h2 => trivial
      | @h zs z1 z2 z3 =>
        refine ⟨by simp; omega, fun d hd => ?_⟩
        obtain ⟨z, hz, rfl⟩ := List.mem_map.mp hd
        cases n <;> trivial
      | @l ss hss =>
        have ecl : cl n 108 (.tup ss) = (allS n ss).length := rfl
        rw [ecl] at h
        have hl : ss.length ≤ (allS n ss).length := by
          cases n with
          | zero => cases ss with
            | nil => simp
            | cons x ss => exact (hss x List.mem_cons_self).elim
          | succ n => exact all_len
        refine ⟨by omega, fun x hx => ih (hss x hx) ?_⟩
        cases n with
        | zero => exact (hss x hx).elim
        | succ n => exact Nat.le_trans (all_mem hx) (by omega)
    · exact items_pd ih r (by omega) d hd
theorem step_pd : ∀ (n : Nat) {d : D}, StepOk n d → (allS n [d]).length ≤ 1000 → Pd (2 * n) d
  | 0, _, h, _ => h.elim
  | n + 1, d, h, hc => by
    obtain ⟨w, sh, its, rfl, h1, h2⟩ := h
    rw [allS_one, inner_mk h1 rfl, List.length_cons] at hc
    have a := items_pd (fun {d} h hc => step_pd n h hc) h2 (by omega)
    have hl := pr_len h2
    have hsh := shape_len h1
    refine ⟨by simp; omega, fun x hx => ?_⟩
    rcases List.mem_cons.mp hx with rfl | hx
    · trivial
    · exact a x hx
mutual
theorem tn_sd : ∀ d : D, tn d ≤ sd d
  | .tup l => by have := tnL_sd l; simp only [tn, sd]; omega
  | .int _ => by simp [tn]
  | .str _ => by simp [tn]
  | .bl _ => by simp [tn]
  | .non => by simp [tn]
  | .lst _ => by simp [tn]
  | .dct _ _ => by simp [tn]
  | .ref _ => by simp [tn]
  | .scr _ => by simp [tn]
theorem tnL_sd : ∀ l : List D, tnL l ≤ sdL l
  | [] => by simp [tnL]
  | d :: ds => by have := tn_sd d; have := tnL_sd ds; simp only [tnL, sdL]; omega
end
/-- frozen things as they are -/
theorem ls_self {t : Sto} : ∀ (n : Nat) {d : D}, Pd n d → ∀ {lo hi : Nat}, lo ≤ hi → Ls t lo hi d d := by
  intro n
  induction n with
  | zero =>
    intro d hp lo hi h
    cases d with
    | int i => exact .int h
    | str z => exact .str h
    | _ => exact hp.elim
  | succ n ih =>
    intro d hp lo hi h
    cases d with
    | int i => exact .int h
    | str z => exact .str h
    | tup ds =>
      refine .tup ?_
      have key : ∀ ds : List D, (∀ d ∈ ds, Pd n d) → LsL t lo hi ds ds := by
        intro ds
        induction ds with
        | nil => intro _; exact .nil h
        | cons d ds ih2 => intro hd; exact .cons (ih (hd d List.mem_cons_self) (Nat.le_refl lo)) (ih2 fun x hx => hd x (List.mem_cons_of_mem _ hx))
      exact key ds hp.2
    | _ => exact hp.elim
/-- a part's steps: what is known of them -/
structure Stp (ds : List D) : Prop where
  ok : ∀ d ∈ ds, StepOk 5 d
  cnt : (allS 5 ds).length ≤ 20
theorem Stp.pd {ds : List D} (h : Stp ds) : Pd 11 (.tup ds) := by
  have hl : ds.length ≤ (allS 5 ds).length := all_len (n := 4)
  refine ⟨by have := h.cnt; omega, fun d hd => step_pd 5 (h.ok d hd) ?_⟩
  have hm : (allS 5 [d]).length ≤ (allS 5 ds).length := all_mem (n := 4) hd
  have := h.cnt
  omega
theorem Stp.pr {ds : List D} (h : Stp ds) : Pr 11 (.tup ds) ∧ sd (.tup ds) ≤ 250000 := by
  have hc := h.cnt
  obtain ⟨h1, h2⟩ := steps_pr h.ok (by omega)
  have hl : ds.length ≤ (allS 5 ds).length := all_len (n := 4)
  refine ⟨⟨by omega, h1⟩, ?_⟩
  rw [sd]
  omega
theorem Stp.tn {ds : List D} (h : Stp ds) : tn (.tup ds) ≤ 250000 := Nat.le_trans (tn_sd _) h.pr.2
theorem Stp.lw {ds : List D} (h : Stp ds) (t : Sto) : Lw t (.tup ds) (.tup ds) := ⟨0, 0, ls_self 11 h.pd (Nat.le_refl _)⟩
section
variable {q : Sp0} {t : Sto} {Q : D → Sto → Prop} {E : XP}
/-- Part(g), behind the walk -/
theorem wp_make1 {g : D} {ds : List D} {R : Sto → Prop} (h : Stp ds) (w : Lw t g (.tup ds)) (hQ : ∀ t', Ex t t' → t.length < t'.length → PartAt t' t.length ds → R (stm q t')) :
    wpR (c_Part_init [.ref (t.length + 2), g] (stm q (t ++ [.ins "Part" []]))) (fun d s' => wpI (isNon d) (R s')) E := by
  refine wp_init (n := 5) (by decide) last_get h.ok (w.keep app_keep) (by have := h.cnt; omega) fun t' h1 h2 h3 => ?_
  simp only [isNon_non, wpI_true]
  refine hQ t' ⟨by simp at h1; omega, fun i hi => ?_⟩ (by simp at h1; omega) h3
  rw [h2 i (by simp; omega) (by omega), List.getElem?_append_left hi]
theorem wp_told {k : Nat} {ds : List D} (h : Stp ds) (hp : PartAt t k ds) {zc zw zf : List Str} (hc : (allS 5 ds).flatMap namesD = zc.map .str) (hcl : zc.length ≤ 3500) (hw : (allS 5 ds).filterMap (wd1 ["say"]) = zw.map .str) (hf : (allS 5 ds).filterMap (wd1 ["fault", "catch"]) = zf.map .str)
    (hQ : ∀ t' a b c, Ex t t' → t.length ≤ a → a < b → b < c → t'[a]? = some (.lst ((srt (ddS zc)).map .str)) → t'[b]? = some (.lst ((srt (ddS zw)).map .str)) → t'[c]? = some (.lst ((srt (ddS zf)).map .str)) → Q (.lst [.tup ds, .ref (a + 2), .ref (b + 2), .ref (c + 2), .int (allS 5 ds).length]) (stm q t')) : wpR (l_told [.ref (k + 2)] (stm q t)) Q E := by
  have hcnt := h.cnt
  have look : ∀ {m : Str}, m ≠ Str.ofString "frozen_steps" → (([(Str.ofString "frozen_steps", D.tup ds)] : List (Str × D)).lookup m).isNone = true := fun {m} hm => by
    rw [List.lookup_cons]
    have : (m == Str.ofString "frozen_steps") = false := by simpa using hm
    rw [this]
    rfl
  unfold l_told
  refine wp_fn (by simp) ?_
  walk_at "wp"
  rw [part_ins hp]
  walk_at "wp"
  refine wpI_intro (look (by decide)) ?_
  walk_at "wp"
  refine wp_steps_m hp ?_
  walk_at "wp"
  rw [part_ins hp]
  walk_at "wp"
  refine wpI_intro (look (by decide)) ?_
  walk_at "wp"
  refine wp_cells_m (n := 5) hp (by decide) h.ok (by omega) hc hcl fun t1 e1 => ?_
  have p1 : PartAt (t1 ++ [.lst ((srt (ddS zc)).map .str)]) k ds := (hp.ext e1).ext Ex.app
  walk_at "wp"
  rw [part_ins p1]
  walk_at "wp"
  refine wpI_intro (look (by decide)) ?_
  walk_at "wp"
  refine wp_words_m (n := 5) p1 (by decide) h.ok (by omega) hw fun t2 e2 => ?_
  have p2 : PartAt (t2 ++ [.lst ((srt (ddS zw)).map .str)]) k ds := (p1.ext e2).ext Ex.app
  walk_at "wp"
  rw [part_ins p2]
  walk_at "wp"
  refine wpI_intro (look (by decide)) ?_
  walk_at "wp"
  refine wp_faults_m (n := 5) p2 (by decide) h.ok (by omega) hf fun t3 e3 => ?_
  have p3 : PartAt (t3 ++ [.lst ((srt (ddS zf)).map .str)]) k ds := (p2.ext e3).ext Ex.app
  walk_at "wp"
  rw [part_ins p3]
  simp only [Option.isSome_some, wpI_true]
  refine wp_len_m (n := 5) p3 (by decide) h.ok (by omega) fun t4 e4 => ?_
  walk_at "wp"
  refine wpI_intro (by omega) ?_
  walk_at "wp"
  refine wpI_intro (le_line (by simp)) ?_
  have l1 := e2.len
  have l2 := e3.len
  simp at l1 l2
  have m0 := e1.len
  have b2 : Ex (t1 ++ [.lst ((srt (ddS zc)).map .str)]) t4 := ((e2.trans Ex.app).trans (e3.trans Ex.app)).trans e4
  have b3 : Ex (t2 ++ [.lst ((srt (ddS zw)).map .str)]) t4 := (e3.trans Ex.app).trans e4
  exact hQ t4 _ _ _ ((e1.trans Ex.app).trans b2) m0 (by omega) (by omega) (b2.keep _ _ last_get) (b3.keep _ _ last_get) (e4.keep _ _ last_get)
/-- == of two parts -/
theorem wp_eq_pp {k j : Nat} {ds es : List D} {p1 p2 : PyData} (h1 : PartAt t k ds) (h2 : PartAt t j es) (r1 : Reads (stm q t) 11 (.tup ds) p1) (r2 : Reads (stm q t) 11 (.tup es) p2) (hQ : Q (.bl (PyData.eqv p1 p2)) (stm q t)) : wpR (c_Part_eq [.ref (k + 2), .ref (j + 2)] (stm q t)) Q E := by
  unfold c_Part_eq
  refine wp_fn (by simp) ?_
  walk_at "wp"
  have ek : (kdD (stm q t) (.ref (j + 2))).bind isC_Part = some true := by
    unfold kdD
    dsimp only
    unfold PartAt at h2
    rw [stm_get, h2]
    rfl
  rw [ek]
  walk_at "wp"
  rw [part_fld h1]
  walk_at "wp"
  rw [part_fld h2]
  walk_at "wp"
  have ee : fEq (stm q t) (.tup ds) (.tup es) = some (.bl (PyData.eqv p1 p2)) := by
    unfold fEq eqD
    rw [show pyS (stm q t) (.tup ds) = (D.tup ds).py from rfl, show pyS (stm q t) (.tup es) = (D.tup es).py from rfl, r1.py, r2.py]
    dsimp only
    rw [if_pos]
    · rfl
    · unfold SeqAt.shaped
      rw [r1.lay, r2.lay, decide_eq_true (Nat.le_trans r1.dep (by decide)), decide_eq_true (Nat.le_trans r2.dep (by decide))]
      rfl
  rw [ee]
  walk_at "wp"
  exact hQ
theorem wp_eq_pt {k : Nat} {ds es : List D} (h1 : PartAt t k ds) (hQ : Q (.bl false) (stm q t)) : wpR (c_Part_eq [.ref (k + 2), .tup es] (stm q t)) Q E := by
  unfold c_Part_eq
  refine wp_fn (by simp) ?_
  walk_at "wp"
  have ek : (kdD (stm q t) (.tup es)).bind isC_Part = some false := rfl
  rw [ek]
  walk_at "wp"
  exact hQ
theorem wp_same {x y : D} {z : Str} (h1 : gRepr (stm q t) [x] = some (.str z)) (h2 : gRepr (stm q t) [y] = some (.str z)) (hQ : Q (.bl true) (stm q t)) : wpR (l_same [x, y] (stm q t)) Q E := by
  unfold l_same
  refine wp_fn (by simp) ?_
  walk_at "wp"
  rw [h1]
  walk_at "wp"
  rw [h2]
  walk_at "wp"
  have e : fEqT (stm q t) (.str z) (.str z) = some (.bl true) := by
    show some (D.bl (decide (z = z))) = _
    simp
  rw [e]
  walk_at "wp"
  exact hQ
end
end MP

set_option Elab.async false
set_option linter.all false
set_option maxRecDepth 100000
set_option maxHeartbeats 16000000
/-! PZ2: the law -/
namespace MP
open PySem L2
local macro_rules | `(tactic| walk_at "wp") => `(tactic| try simp only [↓wp_mSeq, ↓wp_mNext, ↓wp_mBrk, ↓wp_mCnt, ↓wp_mExpr, ↓wp_mRet, ↓wp_mRetN, ↓wp_mIf, ↓wp_mSet, ↓wp_mPar, ↓wp_mPar3, ↓wp_mAsg, ↓wp_mFor, ↓wp_mDPut, ↓wp_mFldSet, ↓wp_mVar, ↓wp_mC, ↓wp_mOp, ↓wp_mUn, ↓wp_mNil, ↓wp_mCons, ↓wp_mStar, ↓wp_mTup, ↓wp_mLst, ↓wp_mLstB, ↓wp_mIfE, ↓wp_mTst, ↓wp_mNot, ↓wp_mAnd, ↓wp_mOr, ↓wp_mAndV, ↓wp_mOrV, ↓wp_mNotV, ↓wp_mChain, ↓wp_mCall, ↓wp_mCallB, ↓wpO_pu, ↓wp_mBm, ↓wp_mBm0, ↓wp_moN, ↓wp_moS, ↓wp_mSl, ↓wp_mIsi, ↓wp_mTab, ↓wp_mTabIn, ↓wp_mTabNotIn, ↓wp_mDGet, ↓wp_mDGet2, ↓wp_mDNew, ↓wp_mSortSet, ↓wp_mSortSetB, ↓wp_mLenSet, ↓wp_mFrz, ↓wp_mFld, ↓wp_mMeth, ↓wp_mMake, ↓wp_mLenO, ↓wp_mEqO, ↓wp_mNeO, ↓wp_mLc, ↓wp_mLcB, ↓wp_miSeq, ↓wp_miRng, ↓wp_miZip, ↓wp_miEnum, ↓wp_gmName, ↓wp_gmNil, ↓wp_gmCons, ↓wp_gmTup, ↓wp_gmSub, ↓wp_mYes, ↓wpR_ok, wpO_some, wpB_true, wpB_false, wpB_not, wpI_true, asB_bl, asI_int, asT_tup, asS_str, two_two, three_three, isNon_non, cI_int, pad, wipeE, List.getElem?_cons_zero, List.getElem?_cons_succ, List.set_cons_zero, List.set_cons_succ, fAdd_int, fSub_int, fLt_int, fLe_int, fGt_int, fGe_int, fEq_int, fNe_int, fNeg_int, stm_ix0, stm_ix1, stm_ix2, stm_ix3, stm_set1, stm_set2, stm_set3, stm_ne, stm_tyL0, gInt_int, tyS_str, stm_len, stm_app])
theorem repr_ok {s : Sto} {n : Nat} {ds : List D} (h : Pr n (.lst ds)) (hn : n < 60) (hs : sd (.lst ds) ≤ 16000000) : ∃ z, gRepr s [.lst ds] = some (.str z) := by
  cases n with
  | zero => exact h.elim
  | succ n =>
    obtain ⟨ps, r⟩ := (reads_seq (s := s) fun d hd => pr_reads n (h.2 d hd)).2
    refine ⟨(PyData.list ps).shown, ?_⟩
    unfold gRepr
    dsimp only
    rw [r.f 60 (by omega)]
    dsimp only
    rw [r.sh.ok, decide_eq_true (Nat.le_trans r.sh.len (by omega))]
    rfl
theorem pyF_ref {q : Sp0} {t : Sto} {a : Nat} {l : List D} (h : t[a]? = some (.lst l)) (n : Nat) : pyF (n + 1) (stm q t) (.ref (a + 2)) = pyF (n + 1) (stm q t) (.lst l) := by
  show (match (stm q t)[a + 2]? with | some (.lst l) => (l.mapM (pyF n (stm q t))).map PyData.list | _ => none) = (l.mapM (pyF n (stm q t))).map PyData.list
  rw [stm_get, h]
theorem repr_told {q : Sp0} {t : Sto} {a b c : Nat} {la lb lc : List D} {x y : D} (ha : t[a]? = some (.lst la)) (hb : t[b]? = some (.lst lb)) (hc : t[c]? = some (.lst lc)) : gRepr (stm q t) [.lst [x, .ref (a + 2), .ref (b + 2), .ref (c + 2), y]] = gRepr (stm q t) [.lst [x, .lst la, .lst lb, .lst lc, y]] := by
  have e : pyF 60 (stm q t) (.lst [x, .ref (a + 2), .ref (b + 2), .ref (c + 2), y]) = pyF 60 (stm q t) (.lst [x, .lst la, .lst lb, .lst lc, y]) := by
    show (List.mapM (pyF 59 (stm q t)) [x, .ref (a + 2), .ref (b + 2), .ref (c + 2), y]).map PyData.list = (List.mapM (pyF 59 (stm q t)) [x, .lst la, .lst lb, .lst lc, y]).map PyData.list
    simp only [List.mapM_cons, pyF_ref ha 58, pyF_ref hb 58, pyF_ref hc 58]
  unfold gRepr
  dsimp only
  rw [e]
theorem srt_ok {zs : List Str} (h : ∀ z ∈ zs, NameOk z) : (∀ z ∈ srt (ddS zs), NameOk z) ∧ (srt (ddS zs)).length ≤ zs.length := by
  refine ⟨fun z hz => h z ((ddS_mem zs z).mp ((srt_perm _).mem_iff.mp hz)), ?_⟩
  rw [(srt_perm (ddS zs)).length_eq]
  exact ddS_len zs
theorem names_lst {n : Nat} {zs : List Str} (h : ∀ z ∈ zs, NameOk z) (hl : zs.length ≤ 1000) : Pr (n + 1) (.lst (zs.map .str)) := by
  refine ⟨by simpa using hl, fun d hd => ?_⟩
  obtain ⟨z, hz, rfl⟩ := List.mem_map.mp hd
  exact name_pr (h z hz)
/-- what is due for a part's steps -/
structure Due (ds : List D) (zc zw zf : List Str) : Prop where
  c : (allS 5 ds).flatMap namesD = zc.map .str
  w : (allS 5 ds).filterMap (wd1 ["say"]) = zw.map .str
  f : (allS 5 ds).filterMap (wd1 ["fault", "catch"]) = zf.map .str
  cl : zc.length ≤ 600
  wl : zw.length ≤ 600
  fl : zf.length ≤ 600
  co : ∀ z ∈ zc, NameOk z
  wo : ∀ z ∈ zw, NameOk z
  fo : ∀ z ∈ zf, NameOk z
theorem Stp.due {ds : List D} (h : Stp ds) : ∃ zc zw zf, Due ds zc zw zf := by
  have hc := h.cnt
  obtain ⟨zc, c1, c2, c3⟩ := names_all (all_ok h.ok)
  obtain ⟨zw, w1, w2, w3⟩ := words_all ks_say (all_ok h.ok)
  obtain ⟨zf, f1, f2, f3⟩ := words_all ks_fc (all_ok h.ok)
  exact ⟨zc, zw, zf, c1, w1, f1, by omega, by omega, by omega, c3, w3, f3⟩
abbrev dueD (ds : List D) (zc zw zf : List Str) : List D := [.tup ds, .lst ((srt (ddS zc)).map .str), .lst ((srt (ddS zw)).map .str), .lst ((srt (ddS zf)).map .str), .int (allS 5 ds).length]
theorem Due.repr {s : Sto} {ds : List D} {zc zw zf : List Str} (h : Stp ds) (d : Due ds zc zw zf) : ∃ z, gRepr s [.lst (dueD ds zc zw zf)] = some (.str z) := by
  have hc := h.cnt
  obtain ⟨p1, p2⟩ := h.pr
  obtain ⟨c1, c2⟩ := srt_ok d.co
  obtain ⟨w1, w2⟩ := srt_ok d.wo
  obtain ⟨f1, f2⟩ := srt_ok d.fo
  have dc := d.cl
  have dw := d.wl
  have df := d.fl
  have s1 := sd_names c1
  have s2 := sd_names w1
  have s3 := sd_names f1
  have e30 : (10 : Nat) ^ 30 = 1000000000000000000000000000000 := by decide
  refine repr_ok (n := 12) ⟨by simp, fun x hx => ?_⟩ (by decide) ?_
  · simp only [dueD, List.mem_cons, List.mem_nil_iff, or_false] at hx
    rcases hx with rfl | rfl | rfl | rfl | rfl
    · exact p1
    · exact names_lst c1 (by omega)
    · exact names_lst w1 (by omega)
    · exact names_lst f1 (by omega)
    · exact int_pr (by rw [e30]; omega)
  · simp only [dueD, sd, sdL] at p2 ⊢
    omega
theorem bools_repr {s : Sto} {bs : List Bool} (h : bs.length ≤ 10) : ∃ z, gRepr s [.lst (bs.map .bl)] = some (.str z) := by
  refine repr_ok (n := 1) ⟨by simp; omega, fun d hd => ?_⟩ (by decide) ?_
  · obtain ⟨b, _, rfl⟩ := List.mem_map.mp hd
    trivial
  · have : sdL (bs.map .bl) ≤ 7 * bs.length := by
      clear h
      induction bs with
      | nil => simp [sdL]
      | cons b bs ih => rw [List.map_cons, sdL, sd, List.length_cons]; omega
    rw [sd]
    omega
mutual
theorem eqv_self : ∀ p : PyData, p.canLay0 = true → PyData.eqv p p = true
  | .none, _ => rfl
  | .bool b, _ => by simp [PyData.eqv]
  | .int i, _ => by simp [PyData.eqv]
  | .str x, _ => by simp [PyData.eqv]
  | .list xs, h => by simp only [PyData.eqv]; exact eqvAll_self xs (by simpa [PyData.canLay0] using h)
  | .tuple xs, h => by simp only [PyData.eqv]; exact eqvAll_self xs (by simpa [PyData.canLay0] using h)
  | .dict _, h => by simp [PyData.canLay0] at h
theorem eqvAll_self : ∀ ps : List PyData, PyData.canLayAll0 ps = true → PyData.eqvAll ps ps = true
  | [], _ => rfl
  | p :: ps, h => by
    simp only [PyData.canLayAll0, Bool.and_eq_true] at h
    simp only [PyData.eqvAll, eqv_self p h.1, eqvAll_self ps h.2, Bool.and_self]
end
theorem eqvAll_len : ∀ {ps qs : List PyData}, ps.length ≠ qs.length → PyData.eqvAll ps qs = false
  | [], [], h => absurd rfl h
  | [], _ :: _, _ => rfl
  | _ :: _, [], _ => rfl
  | p :: ps, q :: qs, h => by
    simp only [PyData.eqvAll, eqvAll_len (ps := ps) (qs := qs) (by simpa using h), Bool.and_false]
theorem stp_hole {ds : List D} (h : Stp ds) (hc : (allS 5 ds).length ≤ 18) : Stp (ds ++ [.tup [.str "hole"]]) := by
  have hh : PlainOk (.tup [.str "hole"]) := plain_mk sh_hole cs_0 .nil rfl
  refine ⟨fun d hd => ?_, ?_⟩
  · rcases List.mem_append.mp hd with h' | h'
    · exact h.ok d h'
    · have : d = .tup [.str "hole"] := by simpa using h'
      rw [this]; exact hh.at_ 4
  · rw [allS_app, List.length_append, hh.all 4]
    simp
    omega
theorem reads_len {s : Sto} {n : Nat} {ds : List D} {p : PyData} (r : Reads s n (.tup ds) p) : ∃ ps, p = .tuple ps ∧ ps.length = ds.length := by
  have h := r.py
  have key : ∀ {ds : List D} {ps : List PyData}, pyL ds = some ps → ps.length = ds.length := by
    intro ds
    induction ds with
    | nil => intro ps h; cases h; rfl
    | cons d ds ih =>
      intro ps h
      obtain ⟨p, qs, _, h2, rfl⟩ := pyL_cons h
      rw [List.length_cons, List.length_cons, ih h2]
  have h' : (pyL ds).map PyData.tuple = some p := h
  cases e : pyL ds with
  | none => rw [e] at h'; cases h'
  | some ps =>
    rw [e] at h'
    cases h'
    exact ⟨ps, rfl, key e⟩
end MP

set_option Elab.async false
set_option linter.all false
set_option maxRecDepth 100000
set_option maxHeartbeats 16000000
/-! PZ3: the law answers True -/
namespace MP
open PySem L2
local macro_rules | `(tactic| walk_at "wp") => `(tactic| try simp only [↓wp_mSeq, ↓wp_mNext, ↓wp_mBrk, ↓wp_mCnt, ↓wp_mExpr, ↓wp_mRet, ↓wp_mRetN, ↓wp_mIf, ↓wp_mSet, ↓wp_mPar, ↓wp_mPar3, ↓wp_mAsg, ↓wp_mFor, ↓wp_mDPut, ↓wp_mFldSet, ↓wp_mVar, ↓wp_mC, ↓wp_mOp, ↓wp_mUn, ↓wp_mNil, ↓wp_mCons, ↓wp_mStar, ↓wp_mTup, ↓wp_mLst, ↓wp_mLstB, ↓wp_mIfE, ↓wp_mTst, ↓wp_mNot, ↓wp_mAnd, ↓wp_mOr, ↓wp_mAndV, ↓wp_mOrV, ↓wp_mNotV, ↓wp_mChain, ↓wp_mCall, ↓wp_mCallB, ↓wpO_pu, ↓wp_mBm, ↓wp_mBm0, ↓wp_moN, ↓wp_moS, ↓wp_mSl, ↓wp_mIsi, ↓wp_mTab, ↓wp_mTabIn, ↓wp_mTabNotIn, ↓wp_mDGet, ↓wp_mDGet2, ↓wp_mDNew, ↓wp_mSortSet, ↓wp_mSortSetB, ↓wp_mLenSet, ↓wp_mFrz, ↓wp_mFld, ↓wp_mMeth, ↓wp_mMake, ↓wp_mLenO, ↓wp_mEqO, ↓wp_mNeO, ↓wp_mLc, ↓wp_mLcB, ↓wp_miSeq, ↓wp_miRng, ↓wp_miZip, ↓wp_miEnum, ↓wp_gmName, ↓wp_gmNil, ↓wp_gmCons, ↓wp_gmTup, ↓wp_gmSub, ↓wp_mYes, ↓wpR_ok, wpO_some, wpB_true, wpB_false, wpB_not, wpI_true, asB_bl, asI_int, asT_tup, asS_str, two_two, three_three, isNon_non, cI_int, pad, wipeE, List.getElem?_cons_zero, List.getElem?_cons_succ, List.set_cons_zero, List.set_cons_succ, fAdd_int, fSub_int, fLt_int, fLe_int, fGt_int, fGe_int, fEq_int, fNe_int, fNeg_int, stm_ix0, stm_ix1, stm_ix2, stm_ix3, stm_set1, stm_set2, stm_set3, stm_ne, stm_tyL0, gInt_int, tyS_str, stm_len, stm_app])
theorem start_eq {ns : List Int} : l_start [.scr ns] [] = some (.ok (.ref 1) (stm ⟨ns, 0, 0, 0⟩ [])) := by
  have key : wpR (l_start [.scr ns] []) (fun d s' => d = .ref 1 ∧ s' = stm ⟨ns, 0, 0, 0⟩ []) (fun _ _ => False) := by
    unfold l_start
    refine wp_fn (by simp) ?_
    walk_at "wp"
    have e : gListB [] [.scr ns] = some (.ref 0, [.lst (ns.map .int)]) := rfl
    rw [e]
    walk_at "wp"
    refine wpI_intro (le_line (by simp)) ?_
    exact ⟨rfl, rfl⟩
  exact eq_of_wp key
theorem fAdd_lst {s : Sto} {a b : List D} (h : a.length + b.length ≤ 1000) : fAdd s (.lst a) (.lst b) = some (.lst (a ++ b)) := by
  unfold fAdd
  dsimp only [lst?]
  rw [if_pos (by omega)]
theorem fAdd_tup {s : Sto} {a b : List D} (h : a.length + b.length ≤ 1000) : fAdd s (.tup a) (.tup b) = some (.tup (a ++ b)) := by
  unfold fAdd
  dsimp only
  rw [if_pos (by omega)]
theorem fEq_steps {s : Sto} {ds es : List D} {p1 p2 : PyData} (r1 : Reads s 11 (.tup ds) p1) (r2 : Reads s 11 (.tup es) p2) : fEq s (.tup ds) (.tup es) = some (.bl (PyData.eqv p1 p2)) := by
  unfold fEq eqD
  rw [show pyS s (.tup ds) = (D.tup ds).py from rfl, show pyS s (.tup es) = (D.tup es).py from rfl, r1.py, r2.py]
  dsimp only
  rw [if_pos]
  · rfl
  · unfold SeqAt.shaped
    rw [r1.lay, r2.lay, decide_eq_true (Nat.le_trans r1.dep (by decide)), decide_eq_true (Nat.le_trans r2.dep (by decide))]
    rfl
theorem part_kd {q : Sp0} {t : Sto} {k : Nat} {ds : List D} (h : PartAt t k ds) : kdD (stm q t) (.ref (k + 2)) = some (.o "Part") := by
  unfold kdD
  dsimp only
  unfold PartAt at h
  rw [stm_get, h]
theorem okE_part : okE_Part (.o "Part") = true := by decide
theorem okE_tup {s : String} : okE_Part (.t s) = true := rfl
theorem py_unique {s s' : Sto} {n m : Nat} {d : D} {p p' : PyData} (a : Reads s n d p) (b : Reads s' m d p') : p = p' := by
  have h := a.py.symm.trans b.py
  exact Option.some.inj h
theorem law_true (ns : List Int) (hns : ns.length ≤ 63) : ∃ st, law_ [.scr ns] [] = some (.ok (.bl true) st) := by
  have key : wpR (law_ [.scr ns] []) (fun d _ => d = .bl true) (fun _ _ => False) := by
    unfold law_
    refine wp_fn (by simp) ?_
    walk_at "wp"
    rw [start_eq]
    walk_at "wp"
    rw [show rng? [.int 5] = some (upto 5, any_) from rng_nat (n := 5) (by decide)]
    walk_at "wp"
    refine wp_for (fun rest ρ s => ∃ (q : Sp0) (t : Sto) (o2 o3 o4 o5 o6 o7 o8 o9 o10 o11 o12 o13 o14 : Option D), ρ = [some (.scr ns), some (.ref 1), o2, o3, o4, o5, o6, o7, o8, o9, o10, o11, o12, o13, o14] ∧ s = stm q t ∧ q.Ok ∧ q.b + rest.length * 400000 ≤ 2000000) ?_ ?_ ⟨⟨ns, 0, 0, 0⟩, [], none, none, none, none, none, none, none, none, none, none, none, none, none, rfl, rfl, ⟨Int.le_refl 0, Int.le_refl 0, Int.le_refl 0, by show (0 : Int) < 2147483647; decide⟩, by rw [upto_len]; show (0 : Int) + 5 * 400000 ≤ 2000000; decide⟩
    · rintro x rest ρ s ⟨q, t, o2, o3, o4, o5, o6, o7, o8, o9, o10, o11, o12, o13, o14, rfl, rfl, hq, hb⟩
      refine ⟨trivial, ?_⟩
      rw [List.length_cons] at hb
      walk_at "wp"
      refine wp_pool hq (by omega) fun q1 u1 hp1 a1 => ?_
      have b1 := a1.hi
      walk_at "wp"
      refine wp_part a1.ok (by omega) hp1 fun rs q2 t2 hrs hrc hrl hk2 hl2 a2 => ?_
      have b2 := a2.hi
      have x2 : Ex (t ++ u1) t2 := ⟨hl2, hk2⟩
      walk_at "wp"
      refine wp_part a2.ok (by omega) (hp1.ext x2) fun os q3 t3 hos hoc hol hk3 hl3 a3 => ?_
      have b3 := a3.hi
      have S1 : Stp rs := ⟨hrs, by omega⟩
      have S2 : Stp os := ⟨hos, by omega⟩
      have htn := S1.tn
      walk_at "wp"
      refine wp_listed 11 20 S1.pd (by decide) a3.ok (by omega) fun g q4 u4 hg a4 => ?_
      have b4 := a4.hi
      walk_at "wp"
      refine wp_make1 S1 ⟨_, _, hg⟩ fun t5 x5 hl5 p5 => ?_
      walk_at "wp"
      refine wp_spoil 11 20 (by decide) S1.pd (hg.keep x5.keep) fun y t6 c6 => ?_
      have p6 : PartAt t6 (t3 ++ u4).length rs := by
        unfold PartAt
        rw [c6.at_ _ (.inr (Nat.le_refl _))]
        exact p5
      obtain ⟨zc, zw, zf, D1⟩ := S1.due
      have dcl := D1.cl
      walk_at "wp"
      refine wp_cells (n := 5) (by decide) S1.ok (by omega) D1.c (by omega) fun t7 x7 => ?_
      walk_at "wp"
      refine wpI_intro (le_line (by simp)) ?_
      walk_at "wp"
      refine wp_words (ks := ["say"]) ks_say (n := 5) (by decide) S1.ok (by omega) D1.w fun t8 x8 => ?_
      walk_at "wp"
      refine wpI_intro (le_line (by simp)) ?_
      walk_at "wp"
      refine wpI_intro (le_line (by simp)) ?_
      walk_at "wp"
      refine wp_words (ks := ["fault", "catch"]) ks_fc (n := 5) (by decide) S1.ok (by omega) D1.f fun t9 x9 => ?_
      walk_at "wp"
      refine wp_all 5 20 (by decide) S1.ok (by omega) fun t10 x10 => ?_
      walk_at "wp"
      rw [show ∀ s, gLen s [.lst (allS 5 rs)] = some (.int (allS 5 rs).length) from fun s => rfl]
      walk_at "wp"
      refine wpI_intro (le_line (by simp)) ?_
      rw [fAdd_lst (by simp)]
      walk_at "wp"
      rw [show rng? [.int 2] = some (upto 2, any_) from rng_nat (n := 2) (by decide)]
      walk_at "wp"
      have p10 : PartAt t10 (t3 ++ u4).length rs := p6.ext (((x7.trans x8).trans x9).trans x10)
      refine wp_for (fun rest ρ s => ∃ (t' : Sto) (o8 o9 o10 o13 o14 : Option D), ρ = [some (.scr ns), some (.ref 1), some x, o3, some (.ref (t.length + 2)), some g, some (.ref ((t3 ++ u4).length + 2)), some (.lst (dueD rs zc zw zf)), o8, o9, o10, some (.tup rs), some (.tup os), o13, o14] ∧ s = stm q4 t' ∧ PartAt t' (t3 ++ u4).length rs) ?_ ?_ ⟨t10, o8, o9, o10, o13, o14, rfl, rfl, p10⟩
      · rintro y2 rest2 ρ s ⟨t', m8, m9, m10, m13, m14, rfl, rfl, p'⟩
        refine ⟨trivial, ?_⟩
        walk_at "wp"
        refine wp_told S1 p' D1.c (by omega) D1.w D1.f fun t11 a b c x11 ha hab hbc ga gb gc => ?_
        obtain ⟨z, hz⟩ := D1.repr (s := stm q4 t11) S1
        walk_at "wp"
        refine wp_same (z := z) (by rw [repr_told ga gb gc]; exact hz) hz ?_
        walk_at "wp"
        have hlt := (List.getElem?_eq_some_iff.mp p').1
        rw [show fSl (stm q4 t11) (.lst [.tup rs, .ref (a + 2), .ref (b + 2), .ref (c + 2), .int (allS 5 rs).length]) (some 1) (some 4) = some (.lst [.ref (a + 2), .ref (b + 2), .ref (c + 2)]) from rfl]
        walk_at "wp"
        rw [show ∀ s, seqOf s (.lst [.ref (a + 2), .ref (b + 2), .ref (c + 2)]) = some ([.ref (a + 2), .ref (b + 2), .ref (c + 2)], any_) from fun s => rfl]
        walk_at "wp"
        obtain ⟨c1, c2⟩ := srt_ok D1.co
        obtain ⟨w1, w2⟩ := srt_ok D1.wo
        obtain ⟨f1, f2⟩ := srt_ok D1.fo
        have dwl := D1.wl
        have dfl := D1.fl
        have la := (List.getElem?_eq_some_iff.mp ga).1
        have lb := (List.getElem?_eq_some_iff.mp gb).1
        have lc := (List.getElem?_eq_some_iff.mp gc).1
        refine wp_forC ?_
        walk_at "wp"
        rw [tyL_stm ga]
        walk_at "wp"
        rw [app_stm ga (by simp; omega)]
        walk_at "wp"
        refine wp_forC ?_
        walk_at "wp"
        have gb2 : (t11.set a (.lst ((srt (ddS zc)).map .str ++ [.str "zz"])))[b]? = some (.lst ((srt (ddS zw)).map .str)) := by rw [List.getElem?_set_ne (by omega)]; exact gb
        rw [tyL_stm gb2]
        walk_at "wp"
        rw [app_stm gb2 (by simp; omega)]
        walk_at "wp"
        refine wp_forC ?_
        walk_at "wp"
        have gc2 : ((t11.set a (.lst ((srt (ddS zc)).map .str ++ [.str "zz"]))).set b (.lst ((srt (ddS zw)).map .str ++ [.str "zz"])))[c]? = some (.lst ((srt (ddS zf)).map .str)) := by rw [List.getElem?_set_ne (by omega), List.getElem?_set_ne (by omega)]; exact gc
        rw [tyL_stm gc2]
        walk_at "wp"
        rw [app_stm gc2 (by simp; omega)]
        walk_at "wp"
        refine wp_forN ?_
        refine ⟨_, _, _, _, _, _, rfl, rfl, ?_⟩
        unfold PartAt
        rw [List.getElem?_set_ne (by omega), List.getElem?_set_ne (by omega), List.getElem?_set_ne (by omega)]
        exact p'.ext x11
      · rintro ρ s ⟨t', m8, m9, m10, m13, m14, rfl, rfl, p'⟩
        refine ⟨trivial, ?_⟩
        have S3 := stp_hole S1 hrc
        walk_at "wp"
        refine wpI_intro (le_line (by simp)) ?_
        walk_at "wp"
        refine wpI_intro (le_line (by simp)) ?_
        rw [fAdd_tup (by simp; omega)]
        walk_at "wp"
        refine wp_make1 S3 (S3.lw _) fun t12 x12 l12 p12 => ?_
        have r12 := p'.ext x12
        walk_at "wp"
        refine wp_make1 S1 (S1.lw _) fun t13 x13 l13 p13 => ?_
        have r13 := r12.ext x13
        obtain ⟨pa, ra⟩ := pr_reads (s := stm q4 t13) 11 S1.pr.1
        walk_at "wp"
        rw [part_ins r13]
        simp only [Option.isSome_some, wpI_true]
        try simp only [stm_len, stm_app]
        rw [part_kd p13]
        walk_at "wp"
        refine wpI_intro okE_part ?_
        try simp only [stm_len, stm_app]
        refine wp_eq_pp r13 p13 ra ra ?_
        rw [eqv_self pa ra.lay]
        walk_at "wp"
        refine wp_make1 S1 (S1.lw _) fun t14 x14 l14 p14 => ?_
        have r14 := r13.ext x14
        obtain ⟨pb, rb⟩ := pr_reads (s := stm q4 t14) 11 S1.pr.1
        walk_at "wp"
        rw [part_ins r14]
        simp only [Option.isSome_some, wpI_true]
        try simp only [stm_len, stm_app]
        rw [part_kd p14]
        walk_at "wp"
        refine wpI_intro okE_part ?_
        try simp only [stm_len, stm_app]
        refine wp_eq_pp r14 p14 rb rb ?_
        rw [eqv_self pb rb.lay]
        walk_at "wp"
        rw [show gListB (stm q4 t14) [.tup os] = some (.ref (t14.length + 2), stm q4 (t14 ++ [.lst os])) from rfl]
        walk_at "wp"
        have hos' : Lw (t14 ++ [.lst os]) (.ref (t14.length + 2)) (.tup os) := ⟨0, t14.length + 1, .box last_get (by
          have h0 := S2.pd
          have h1 : Ls (t14 ++ [.lst os]) 0 t14.length (.tup os) (.tup os) := ls_self 11 h0 (Nat.zero_le _)
          cases h1 with
          | tup h => exact h) (Nat.lt_succ_self _)⟩
        refine wp_make1 S2 hos' fun t15 x15 l15 p15 => ?_
        have r15 := (r14.ext Ex.app).ext x15
        obtain ⟨pc, rc⟩ := pr_reads (s := stm q4 t15) 11 S1.pr.1
        obtain ⟨pd, rd⟩ := pr_reads (s := stm q4 t15) 11 S2.pr.1
        walk_at "wp"
        rw [part_ins r15]
        simp only [Option.isSome_some, wpI_true]
        try simp only [stm_len, stm_app]
        rw [part_kd p15]
        walk_at "wp"
        refine wpI_intro okE_part ?_
        try simp only [stm_len, stm_app]
        refine wp_eq_pp r15 p15 rc rd ?_
        walk_at "wp"
        refine wpI_intro (le_line (by simp)) ?_
        walk_at "wp"
        rw [part_ins r15]
        simp only [Option.isSome_some, wpI_true]
        have p12' := ((((p12.ext x13).ext x14).ext Ex.app).ext x15)
        try simp only [stm_len, stm_app]
        rw [part_kd p12']
        walk_at "wp"
        refine wpI_intro okE_part ?_
        obtain ⟨pe, re⟩ := pr_reads (s := stm q4 t15) 11 S3.pr.1
        try simp only [stm_len, stm_app]
        refine wp_eq_pp r15 p12' rc re ?_
        have hne : PyData.eqv pc pe = false := by
          obtain ⟨l1, rfl, h1⟩ := reads_len rc
          obtain ⟨l2, rfl, h2⟩ := reads_len re
          simp only [PyData.eqv]
          exact eqvAll_len (by rw [h1, h2]; simp)
        rw [hne]
        walk_at "wp"
        rw [part_ins r15]
        simp only [Option.isSome_some, wpI_true]
        rw [show kdD (stm q4 t15) (.tup rs) = some (.t "tuple") from rfl]
        walk_at "wp"
        refine wpI_intro okE_tup ?_
        refine wp_eq_pt r15 ?_
        walk_at "wp"
        refine wpI_intro (le_line (by simp)) ?_
        rw [fAdd_lst (by simp)]
        walk_at "wp"
        rw [fEq_steps rc rd]
        walk_at "wp"
        refine wpI_intro (le_line (by simp)) ?_
        obtain ⟨z, hz⟩ := bools_repr (s := stm q4 t15) (bs := [true, false, PyData.eqv pc pd, false, false]) (by simp)
        simp only [List.map_cons, List.map_nil] at hz
        walk_at "wp"
        simp only [List.cons_append, List.nil_append]
        refine wp_same (z := z) hz hz ?_
        walk_at "wp"
        have b5 := a4.hi
        refine ⟨q4, t15, _, _, _, _, _, _, _, _, _, _, _, _, _, rfl, rfl, a4.ok, ?_⟩
        omega
    · rintro ρ s ⟨q, t, o2, o3, o4, o5, o6, o7, o8, o9, o10, o11, o12, o13, o14, rfl, rfl, hq, hb⟩
      refine ⟨trivial, ?_⟩
      have S0 : Stp [] := ⟨by simp, by simp [allS]⟩
      walk_at "wp"
      refine wpI_intro (le_line (by simp)) ?_
      walk_at "wp"
      have h0 : Lw (t ++ [.lst []]) (.ref (t.length + 2)) (.tup []) := ⟨0, t.length + 1, .box last_get (.nil (Nat.zero_le _)) (Nat.lt_succ_self _)⟩
      refine wp_make1 S0 h0 fun t1 x1 l1 p1 => ?_
      walk_at "wp"
      refine wp_told (zc := []) (zw := []) (zf := []) S0 p1 rfl (by simp) rfl rfl fun t2 a b c x2 ha hab hbc ga gb gc => ?_
      walk_at "wp"
      refine wpI_intro (le_line (by simp)) ?_
      walk_at "wp"
      refine wpI_intro (le_line (by simp)) ?_
      walk_at "wp"
      refine wpI_intro (le_line (by simp)) ?_
      walk_at "wp"
      refine wpI_intro (le_line (by simp)) ?_
      walk_at "wp"
      refine wpI_intro (le_line (by simp)) ?_
      have D0 : Due [] [] [] [] := ⟨rfl, rfl, rfl, by simp, by simp, by simp, by simp, by simp, by simp⟩
      obtain ⟨z, hz⟩ := D0.repr (s := stm q t2) S0
      have e0 : dueD [] [] [] [] = [.tup [], .lst [], .lst [], .lst [], .int 0] := rfl
      have hz2 := hz
      rw [e0] at hz2
      walk_at "wp"
      have ht : gRepr (stm q t2) [.lst [.tup [], .ref (a + 2), .ref (b + 2), .ref (c + 2), .int (allS 5 ([] : List D)).length]] = some (.str z) := (repr_told ga gb gc).trans hz
      refine wp_same (z := z) ht hz2 ?_
      walk_at "wp"
      refine wpI_intro (le_line (by simp)) ?_
      walk_at "wp"
      refine wp_make1 S0 (S0.lw _) fun t3 x3 l3 p3 => ?_
      have r3 := (p1.ext x2).ext x3
      obtain ⟨pa, ra⟩ := pr_reads (s := stm q t3) 11 S0.pr.1
      walk_at "wp"
      rw [part_ins r3]
      simp only [Option.isSome_some, wpI_true]
      try simp only [stm_len, stm_app]
      rw [part_kd p3]
      walk_at "wp"
      refine wpI_intro okE_part ?_
      try simp only [stm_len, stm_app]
      refine wp_eq_pp r3 p3 ra ra ?_
      rw [eqv_self pa ra.lay]
      walk_at "wp"
  obtain ⟨d, st, e, rfl⟩ := wpR_get key
  exact ⟨st, e⟩
end MP

set_option Elab.async false
set_option linter.all false
set_option maxRecDepth 100000
set_option maxHeartbeats 0
namespace MP
open PySem PySem.Spec PyProof.Rows L2
theorem facts0 {P : Program} {w : World} {K : PySem.W.Frag} {h : Heap} {mg : Str → Option Value} {f : Addr} (X : K.In h) (G : h.Ns mainGlobals mg) (hfa : mg ("law" : Str) = some (.ref f)) (c : He.SaysX fa0 fn0 ts0 [] ex0 w h K) :
    ∃ fd : FuncData, (∀ (s : Shared) (v : Value), BindsTo s fd ⟨[v], []⟩ [("_law_script", v)]) ∧ ∀ base : Heap, K.In base → base.Ns mainGlobals mg → FnG P w K mg base 48 f fd ["_law_script"] (spM K 1 law_) := by
  have S : SYk w K mg := ⟨h, X, G, c⟩
  have e := hfa.symm.trans (S.glo 0 (x := "law"))
  cases e
  obtain ⟨fd, F⟩ := S.def_ 45 (d := d_law_)
  have b := FunD.bindsA (ps := ["_law_script"]) F fun _ _ _ _ _ _ us hl => match us, hl with | [_], _ => rfl
  exact ⟨fd, fun s v => b s [v] rfl, fun base _ _ => fnG_law_ S base F⟩
end MP
open PySem PySem.W PySem.Calls PyProof.Rows
theorem PySem.Challenge.cw_heldback_k01_parts_told_holds : PySem.Challenge.rw_heldback_k01_parts_told.Holds := by
  w_on; o_law
  refine HandSHeadRun.head_any (r := OpenLaw.row PySem.Challenge.rw_heldback_k01_parts_told) (q := view (OpenLaw.row PySem.Challenge.rw_heldback_k01_parts_told).prog [66]) (H := MP.hk0) (ob := MP.ob0) (M := 6000) (loose := MP.loose0) (d := HandSHeadRun.topDef (OpenLaw.row PySem.Challenge.rw_heldback_k01_parts_told).prog 66) (kwd := []) MP.ob0_eq
    (by kernel_rfl) (fun s => by kernel_rfl) MP.run0 (by kernel_rfl) (by kernel_rfl) (by kernel_rfl) (by rfl) (by first | assumption | decide +kernel) (by decide +kernel) ⟨rfl, rfl, rfl, rfl, rfl, by decide +kernel⟩ ?hw ?hc
  case hw => w_witness2
  case hc =>
    refine MP.walk_G (l := PySem.Challenge.rw_heldback_k01_parts_told) (n := 63) (k := 48) (x := "_law_script") (fm := MP.law_) rfl (by decide) (by kernel_rfl) ⟨rfl, by decide, by decide⟩ MP.law_true ?F
    intro w mg fa h Y G hmg0
    obtain ⟨K, KX, c⟩ := Y
    have hmg : mg ("law" : PySem.Str) = some (.ref fa) := by
      have e : (HandSHeadRun.topDef (OpenLaw.row PySem.Challenge.rw_heldback_k01_parts_told).prog 66).name = ("law" : PySem.Str) := by kernel_rfl
      rw [← e]
      exact hmg0
    obtain ⟨fd, hb, hF⟩ := MP.facts0 (P := (PySem.Challenge.rw_heldback_k01_parts_told).prog) (w := w) KX G hmg c
    exact ⟨K, fd, KX, hb, hF⟩
