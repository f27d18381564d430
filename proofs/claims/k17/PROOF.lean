import PyProof.Rows.All
import Wide.All
import OpenK.AllK
import Wide.FinOn
import HandS.ForMost
import HandS.Evl
import HandS.IsInst
import HandS.SortKw
import HandS.SortInts
import HandS.Set
import HandS.Flow
import HandS.TupSets
import KE.DatumOrd
import KE.KDictList
import PySem.Challenge.RW_maybetables_k17_whole_one_truth_for_a_ki
import KE.KSortedAny
import HandS.Walk
import KE.RegKIsAll
set_option Elab.async false
set_option linter.all false
set_option maxRecDepth 100000
set_option maxHeartbeats 8000000
/-! Plain mathematics for law k17: rows of ints, alike rows, the kinds. No program here. -/
namespace K17
theorem nodup_le {α : Type} [DecidableEq α] : ∀ {l m : List α}, l.Nodup → (∀ x ∈ l, x ∈ m) → l.length ≤ m.length
  | [], m, _, _ => Nat.zero_le _
  | a :: l, m, h, hs => by
    obtain ⟨h1, h2⟩ := List.nodup_cons.mp h
    have ha : a ∈ m := hs a List.mem_cons_self
    have q : l.length ≤ (m.erase a).length := nodup_le h2 fun x hx =>
      (List.mem_erase_of_ne (fun e : x = a => h1 (by rw [← e]; exact hx))).mpr (hs x (List.mem_cons_of_mem _ hx))
    rw [List.length_erase_of_mem ha] at q
    have := List.length_pos_of_mem ha
    rw [List.length_cons]
    omega
/-- two rows are of one kind over some values -/
def AlikeR (vs r s : List Int) : Prop :=
  r.length = s.length ∧ ∀ (i : Nat) (x y : Int), r[i]? = some x → s[i]? = some y →
    (∀ v ∈ vs, (x = v ↔ y = v)) ∧ ∀ (j : Nat) (x' y' : Int), r[j]? = some x' → s[j]? = some y' → (x = x' ↔ y = y')
theorem AlikeR.sub {vs ws r s : List Int} (h : AlikeR vs r s) (hw : ∀ v ∈ ws, v ∈ vs) : AlikeR ws r s :=
  ⟨h.1, fun i x y a b => ⟨fun v hv => (h.2 i x y a b).1 v (hw v hv), (h.2 i x y a b).2⟩⟩
theorem AlikeR.symm {vs r s : List Int} (h : AlikeR vs r s) : AlikeR vs s r :=
  ⟨h.1.symm, fun i x y a b => ⟨fun v hv => ((h.2 i y x b a).1 v hv).symm, fun j x' y' a' b' => ((h.2 i y x b a).2 j y' x' b' a').symm⟩⟩
theorem AlikeR.refl (vs r : List Int) : AlikeR vs r r := ⟨rfl, fun i x y a b => by
  rw [a] at b; cases b
  refine ⟨fun v _ => Iff.rfl, fun j x' y' a' b' => ?_⟩
  rw [a'] at b'; cases b'
  exact Iff.rfl⟩
/-- a row longer by one -/
theorem alike_snoc {vs r s : List Int} {x y : Int} (hl : r.length = s.length) :
    AlikeR vs (r ++ [x]) (s ++ [y]) ↔ AlikeR vs r s ∧ (∀ v ∈ vs, (x = v ↔ y = v)) ∧ ∀ (j : Nat) (a b : Int), r[j]? = some a → s[j]? = some b → (x = a ↔ y = b) := by
  have gl : ∀ {l : List Int} {z : Int}, (l ++ [z])[l.length]? = some z := fun {l z} => by simp
  have go : ∀ {l : List Int} {z a : Int} {j : Nat}, l[j]? = some a → (l ++ [z])[j]? = some a := fun {l z a j} h => by
    rw [List.getElem?_append_left (List.getElem?_eq_some_iff.mp h).1]
    exact h
  have gi : ∀ {l : List Int} {z a : Int} {j : Nat}, (l ++ [z])[j]? = some a → l[j]? = some a ∨ (j = l.length ∧ a = z) := fun {l z a j} h => by
    by_cases hj : j < l.length
    · rw [List.getElem?_append_left hj] at h
      exact .inl h
    · have hlt := (List.getElem?_eq_some_iff.mp h).1
      rw [List.length_append, List.length_singleton] at hlt
      have e : j = l.length := by omega
      subst e
      rw [gl] at h
      exact .inr ⟨rfl, (Option.some.inj h).symm⟩
  constructor
  · rintro ⟨_, h⟩
    refine ⟨⟨hl, fun i a b ha hb => ⟨(h i a b (go ha) (go hb)).1, fun j a' b' ha' hb' => (h i a b (go ha) (go hb)).2 j a' b' (go ha') (go hb')⟩⟩, ?_, ?_⟩
    · exact (h r.length x y gl (by rw [hl]; exact gl)).1
    · exact fun j a b ha hb => (h r.length x y gl (by rw [hl]; exact gl)).2 j a b (go ha) (go hb)
  · rintro ⟨⟨_, h⟩, hv, hj⟩
    refine ⟨by rw [List.length_append, List.length_append, hl, List.length_singleton, List.length_singleton], fun i a b ha hb => ?_⟩
    rcases gi ha with ha | ⟨e1, ea⟩ <;> rcases gi hb with hb | ⟨e2, eb⟩
    · refine ⟨(h i a b ha hb).1, fun j a' b' ha' hb' => ?_⟩
      rcases gi ha' with ha' | ⟨e1, ea'⟩ <;> rcases gi hb' with hb' | ⟨e2, eb'⟩
      · exact (h i a b ha hb).2 j a' b' ha' hb'
      · exact absurd (List.getElem?_eq_some_iff.mp ha').1 (by omega)
      · exact absurd (List.getElem?_eq_some_iff.mp hb').1 (by omega)
      · have q := hj i a b ha hb
        rw [ea', eb']
        exact ⟨fun e => (q.mp e.symm).symm, fun e => (q.mpr e.symm).symm⟩
    · exact absurd (List.getElem?_eq_some_iff.mp ha).1 (by omega)
    · exact absurd (List.getElem?_eq_some_iff.mp hb).1 (by omega)
    · rw [ea, eb]
      refine ⟨hv, fun j a' b' ha' hb' => ?_⟩
      rcases gi ha' with ha' | ⟨e1', ea'⟩ <;> rcases gi hb' with hb' | ⟨e2', eb'⟩
      · exact hj j a' b' ha' hb'
      · exact absurd (List.getElem?_eq_some_iff.mp ha').1 (by omega)
      · exact absurd (List.getElem?_eq_some_iff.mp hb').1 (by omega)
      · rw [ea', eb']
        exact ⟨fun _ => rfl, fun _ => rfl⟩
/-! ### the kinds -/
def opts (old new : List Int) (p : List Int × Nat) : List (List Int × Nat) :=
  (old ++ new.take (p.2 + 1)).zipIdx.map fun q => (p.1 ++ [q.1], max p.2 (q.2 + 1 - old.length))
def kindsN (old new : List Int) : Nat → List (List Int × Nat)
  | 0 => [([], 0)]
  | n + 1 => (kindsN old new n).flatMap (opts old new)
/-- what is true of each kind on the way -/
structure KOk (old new : List Int) (n : Nat) (p : List Int × Nat) : Prop where
  len : p.1.length = n
  few : p.2 ≤ n
  mem : ∀ x ∈ p.1, x ∈ old ∨ x ∈ new.take p.2
  has : ∀ x ∈ new.take p.2, x ∈ p.1
theorem take_get {α : Type} {l : List α} {n k : Nat} {x : α} (h : l[k]? = some x) (hk : k < n) : x ∈ l.take n := by
  refine List.mem_of_getElem? (i := k) ?_
  rw [List.getElem?_take, if_pos hk]
  exact h
theorem of_take {α : Type} {l : List α} {n : Nat} {x : α} (h : x ∈ l.take n) : ∃ k, k < n ∧ l[k]? = some x := by
  obtain ⟨k, hk⟩ := List.getElem?_of_mem h
  rw [List.getElem?_take] at hk
  split at hk
  · exact ⟨k, ‹_›, hk⟩
  · cases hk
theorem KOk.step {old new : List Int} {n : Nat} {p q : List Int × Nat} (hp : KOk old new n p) (hq : q ∈ opts old new p) : KOk old new (n + 1) q := by
  unfold opts at hq
  obtain ⟨⟨v, k⟩, hv, rfl⟩ := List.mem_map.mp hq
  have hv := List.mem_zipIdx_iff_getElem?.mp hv
  dsimp only at hv ⊢
  obtain ⟨h1, h2, h3, h4⟩ := hp
  have hk : k < old.length + (new.take (p.2 + 1)).length := by
    have := (List.getElem?_eq_some_iff.mp hv).1
    rw [List.length_append] at this
    exact this
  have hk2 : k < old.length + (p.2 + 1) := Nat.lt_of_lt_of_le hk (by rw [List.length_take]; omega)
  have hm : p.2 ≤ max p.2 (k + 1 - old.length) := Nat.le_max_left _ _
  have tk : ∀ {a b : Nat} {x : Int}, a ≤ b → x ∈ new.take a → x ∈ new.take b := fun {a b x} hab hx => by
    obtain ⟨j, hj, e⟩ := of_take hx
    exact take_get e (Nat.lt_of_lt_of_le hj hab)
  refine ⟨by rw [List.length_append, h1]; rfl, ?_, fun x hx => ?_, fun x hx => ?_⟩
  · show max p.2 (k + 1 - old.length) ≤ n + 1
    omega
  · rcases List.mem_append.mp hx with hx | hx
    · exact (h3 x hx).imp id (tk hm)
    · have e := List.mem_singleton.mp hx
      subst e
      by_cases hko : k < old.length
      · rw [List.getElem?_append_left hko] at hv
        exact .inl (List.mem_of_getElem? hv)
      · rw [List.getElem?_append_right (by omega), List.getElem?_take] at hv
        split at hv
        · exact .inr (take_get hv (by omega))
        · cases hv
  · obtain ⟨j, hj, e⟩ := of_take hx
    by_cases hjp : j < p.2
    · exact List.mem_append_left _ (h4 x (take_get e hjp))
    · have hje : j = k - old.length := by omega
      rw [List.getElem?_append_right (by omega), List.getElem?_take, if_pos (by omega), ← hje, e] at hv
      cases hv
      exact List.mem_append_right _ List.mem_cons_self
theorem kinds_ok (old new : List Int) : ∀ n p, p ∈ kindsN old new n → KOk old new n p
  | 0, p, h => by
    have e : p = ([], 0) := List.mem_singleton.mp h
    subst e
    exact ⟨rfl, Nat.le_refl _, (fun x hx => by cases hx), (fun x hx => by simp at hx)⟩
  | n + 1, p, h => by
    obtain ⟨q, hq, hp⟩ := List.mem_flatMap.mp h
    exact (kinds_ok old new n q hq).step hp
theorem flatMap_only {α β : Type} (f : α → Bool) (g : α → List β) : ∀ (l : List α), (∀ x ∈ l, f x = false → g x = []) → l.flatMap g = (l.filter f).flatMap g
  | [], _ => rfl
  | a :: l, h => by
    have ih := flatMap_only f g l fun x hx => h x (List.mem_cons_of_mem _ hx)
    rw [List.flatMap_cons, ih]
    cases hf : f a with
    | true => rw [List.filter_cons, if_pos hf, List.flatMap_cons]
    | false => rw [List.filter_cons, if_neg (by rw [hf]; decide), h a List.mem_cons_self hf, List.nil_append]
theorem filter_flatMap {α β : Type} (p : β → Bool) (g : α → List β) : ∀ l : List α, (l.flatMap g).filter p = l.flatMap fun x => (g x).filter p
  | [] => rfl
  | a :: l => by rw [List.flatMap_cons, List.filter_append, filter_flatMap p g l, List.flatMap_cons]
/-- just one place fits -/
theorem filter_one {α : Type} {p : α → Bool} : ∀ {l : List α} {k : Nat} {x : α}, l[k]? = some x → p x = true → (∀ j y, l[j]? = some y → p y = true → j = k) → l.filter p = [x]
  | [], k, x, h, _, _ => by simp at h
  | a :: l, 0, x, h, hx, hu => by
    have e : a = x := Option.some.inj h
    subst e
    rw [List.filter_cons, if_pos hx]
    have : l.filter p = [] := List.filter_eq_nil_iff.mpr fun y hy hp => by
      obtain ⟨j, hj⟩ := List.getElem?_of_mem hy
      exact absurd (hu (j + 1) y hj hp) (by omega)
    rw [this]
  | a :: l, k + 1, x, h, hx, hu => by
    rw [List.filter_cons, if_neg (fun ha => absurd (hu 0 a rfl ha) (by omega))]
    exact filter_one (l := l) (k := k) h hx fun j y hj hp => by
      have := hu (j + 1) y hj hp
      omega
/-- THE KINDS: each row is of just one of them -/
theorem kinds_one {old new : List Int} (ho : old.Nodup) (hn : new.Nodup) (hd : ∀ x ∈ new, x ∉ old) :
    ∀ (r : List Int), r.length ≤ new.length → ∀ b : List Int → Bool, (∀ s, b s = true ↔ AlikeR old s r) →
      ∃ p, (kindsN old new r.length).filter (fun p => b p.1) = [p] := by
  intro r
  induction hr : r.length generalizing r with
  | zero =>
    intro _ b hb
    have e : r = [] := List.eq_nil_of_length_eq_zero hr
    subst e
    refine ⟨([], 0), ?_⟩
    show List.filter _ [([], 0)] = _
    rw [List.filter_cons, if_pos ((hb []).mpr (AlikeR.refl old []))]
    rfl
  | succ n ih =>
    intro hlen b hb
    obtain ⟨r0, x0, rfl⟩ : ∃ r0 x0, r = r0 ++ [x0] := by
      rcases List.eq_nil_or_concat r with e | ⟨l, x, e⟩
      · rw [e] at hr; cases hr
      · exact ⟨l, x, by rw [e, List.concat_eq_append]⟩
    have hr0 : r0.length = n := by rw [List.length_append, List.length_singleton] at hr; omega
    have dec : ∀ s, ∃ c : Bool, c = true ↔ AlikeR old s r0 := fun s => by
      by_cases h : AlikeR old s r0
      · exact ⟨true, by simp [h]⟩
      · exact ⟨false, by simp [h]⟩
    obtain ⟨b0, hb0⟩ := Classical.axiomOfChoice dec
    obtain ⟨⟨s, u⟩, hs⟩ := ih r0 hr0 (by omega) b0 hb0
    have hmem : (s, u) ∈ (kindsN old new n).filter (fun p => b0 p.1) := by rw [hs]; exact List.mem_singleton.mpr rfl
    obtain ⟨hin, hal⟩ := List.mem_filter.mp hmem
    have hal : AlikeR old s r0 := (hb0 s).mp hal
    have K : KOk old new n (s, u) := kinds_ok old new n _ hin
    show ∃ p, ((kindsN old new n).flatMap (opts old new)).filter (fun p => b p.1) = [p]
    rw [filter_flatMap, flatMap_only (fun p => b0 p.1), hs]
    · show ∃ p, List.flatMap _ [(s, u)] = [p]
      rw [List.flatMap_cons, List.flatMap_nil, List.append_nil]
      have hls : s.length = r0.length := hal.1
      -- the places among the options that fit
      have fit : ∀ (v : Int), b (s ++ [v]) = true ↔ (∀ w ∈ old, (v = w ↔ x0 = w)) ∧ ∀ (j : Nat) (a c : Int), s[j]? = some a → r0[j]? = some c → (v = a ↔ x0 = c) := fun v => by
        rw [hb, alike_snoc hls]
        exact ⟨fun h => h.2, fun h => ⟨hal, h⟩⟩
      have optNd : (old ++ new.take (u + 1)).Nodup := by
        rw [List.nodup_append]
        refine ⟨ho, hn.sublist (List.take_sublist _ _), fun a ha c hc e => ?_⟩
        subst e
        obtain ⟨j, _, hj⟩ := of_take hc
        exact hd a (List.mem_of_getElem? hj) ha
      have ix : ∀ {i j : Nat} {a : Int}, (old ++ new.take (u + 1))[i]? = some a → (old ++ new.take (u + 1))[j]? = some a → i = j := fun {i j a} h1 h2 => by
        obtain ⟨l1, e1⟩ := List.getElem?_eq_some_iff.mp h1
        obtain ⟨l2, e2⟩ := List.getElem?_eq_some_iff.mp h2
        exact (List.getElem_inj optNd).mp (e1.trans e2.symm)
      have main : ∀ (k : Nat) (v : Int), (old ++ new.take (u + 1))[k]? = some v → b (s ++ [v]) = true → (∀ w, w ∈ old ++ new.take (u + 1) → b (s ++ [w]) = true → w = v) →
          ∃ p, (opts old new (s, u)).filter (fun p => b p.1) = [p] := fun k v hk hv hu => by
        refine ⟨_, filter_one (k := k) (x := (s ++ [v], max u (k + 1 - old.length))) ?_ hv fun j y hj hy => ?_⟩
        · unfold opts
          rw [List.getElem?_map, List.getElem?_zipIdx, hk, Nat.zero_add]
          rfl
        · unfold opts at hj
          rw [List.getElem?_map, List.getElem?_zipIdx] at hj
          cases hw : (old ++ new.take ((s, u).2 + 1))[j]? with
          | none => rw [hw] at hj; cases hj
          | some w =>
            rw [hw] at hj
            have e := Option.some.inj hj
            subst e
            have := hu w (List.mem_of_getElem? hw) hy
            subst this
            exact ix hw hk
      by_cases h1 : x0 ∈ old
      · -- one of the values
        obtain ⟨k, hk⟩ := List.getElem?_of_mem h1
        refine main k x0 ?_ ((fit x0).mpr ⟨fun w _ => Iff.rfl, fun j a c ha hc => ?_⟩) fun w _ hw => ?_
        · rw [List.getElem?_append_left (List.getElem?_eq_some_iff.mp hk).1]
          exact hk
        · have q := (hal.2 j a c ha hc).1 x0 h1
          exact ⟨fun e => (q.mp e.symm).symm, fun e => (q.mpr e.symm).symm⟩
        · exact (((fit w).mp hw).1 x0 h1).mpr rfl
      · by_cases h2 : ∃ j : Nat, r0[j]? = some x0
        · -- as an earlier one
          obtain ⟨j, hj⟩ := h2
          have hjl : j < s.length := by rw [hls]; exact (List.getElem?_eq_some_iff.mp hj).1
          obtain ⟨v, hv⟩ : ∃ v, s[j]? = some v := ⟨_, List.getElem?_eq_getElem hjl⟩
          have hvo : v ∉ old := fun hm => h1 (by
            have q := (hal.2 j v x0 hv hj).1 v hm
            have := q.mp rfl
            rw [this]; exact hm)
          have hvn : v ∈ new.take u := (K.mem v (List.mem_of_getElem? hv)).resolve_left hvo
          obtain ⟨m, hm, em⟩ := of_take hvn
          refine main (old.length + m) v ?_ ((fit v).mpr ⟨fun w hw => (hal.2 j v x0 hv hj).1 w hw, fun i a c ha hc => (hal.2 j v x0 hv hj).2 i a c ha hc⟩) fun w _ hw => ?_
          · rw [List.getElem?_append_right (by omega), List.getElem?_take, if_pos (by omega), Nat.add_sub_cancel_left]
            exact em
          · exact (((fit w).mp hw).2 j v x0 hv hj).mpr rfl
        · -- a new one
          have hus : u < new.length := by have := K.few; dsimp only at this; omega
          obtain ⟨v, hv⟩ : ∃ v, new[u]? = some v := ⟨_, List.getElem?_eq_getElem hus⟩
          have hvo : v ∉ old := hd v (List.mem_of_getElem? hv)
          have hvs : v ∉ s := fun hm => by
            have h3 := (K.mem v hm).resolve_left hvo
            obtain ⟨m, hm1, em⟩ := of_take h3
            obtain ⟨l1, e1⟩ := List.getElem?_eq_some_iff.mp em
            obtain ⟨l2, e2⟩ := List.getElem?_eq_some_iff.mp hv
            have := (List.getElem_inj hn).mp (e1.trans e2.symm)
            dsimp only at hm1
            omega
          refine main (old.length + u) v ?_ ((fit v).mpr ⟨fun w hw => ⟨fun e => (hvo (e ▸ hw)).elim, fun e => (h1 (e ▸ hw)).elim⟩, fun i a c ha hc => ⟨fun e => (hvs (e ▸ List.mem_of_getElem? ha)).elim, fun e => (h2 ⟨i, e ▸ hc⟩).elim⟩⟩) fun w hw hwb => ?_
          · rw [List.getElem?_append_right (by omega), List.getElem?_take, if_pos (by omega), Nat.add_sub_cancel_left]
            exact hv
          · obtain ⟨f1, f2⟩ := (fit w).mp hwb
            rcases List.mem_append.mp hw with hw | hw
            · exact (h1 ((f1 w hw).mp rfl ▸ hw)).elim
            · obtain ⟨m, hm, em⟩ := of_take hw
              by_cases hmu : m < u
              · have hws := K.has w (take_get em hmu)
                obtain ⟨i, hi⟩ := List.getElem?_of_mem hws
                have hil : i < r0.length := by rw [← hls]; exact (List.getElem?_eq_some_iff.mp hi).1
                obtain ⟨c, hc⟩ : ∃ c, r0[i]? = some c := ⟨_, List.getElem?_eq_getElem hil⟩
                have := (f2 i w c hi hc).mp rfl
                exact (h2 ⟨i, this ▸ hc⟩).elim
              · have : m = u := by omega
                subst this
                rw [em] at hv
                exact Option.some.inj hv
    · rintro ⟨s', u'⟩ hs' hf
      refine List.filter_eq_nil_iff.mpr fun q hq hbq => ?_
      unfold opts at hq
      obtain ⟨⟨v, k⟩, _, rfl⟩ := List.mem_map.mp hq
      have K' : KOk old new n (s', u') := kinds_ok old new n _ hs'
      have h1 := (alike_snoc (K'.len.trans hr0.symm)).mp ((hb _).mp hbq)
      have h2 := (hb0 s').mpr h1.1
      dsimp only at hf
      rw [h2] at hf
      cases hf
/-! ### exchanged -/
/-- the unlike ones of a list -/
def uniq : List Int → List Int
  | [] => []
  | x :: l => if x ∈ uniq l then uniq l else x :: uniq l
theorem mem_uniq : ∀ {l : List Int} {x : Int}, x ∈ uniq l ↔ x ∈ l
  | [], x => Iff.rfl
  | y :: l, x => by
    unfold uniq
    split
    · rw [mem_uniq (l := l), List.mem_cons]
      rename_i h
      have h := (mem_uniq (l := l)).mp h
      exact ⟨.inr, fun q => q.elim (fun e => e ▸ h) id⟩
    · rw [List.mem_cons, List.mem_cons, mem_uniq (l := l)]
theorem nodup_uniq : ∀ (l : List Int), (uniq l).Nodup
  | [] => List.nodup_nil
  | y :: l => by
    unfold uniq
    split
    · exact nodup_uniq l
    · exact List.nodup_cons.mpr ⟨‹_›, nodup_uniq l⟩
theorem inj_of_uniq {E : Int → Int} {r : List Int} (h : (uniq (r.map E)).length = (uniq r).length) : ∀ x ∈ r, ∀ y ∈ r, E x = E y → x = y := by
  intro x hx y hy e
  by_cases hxy : x = y
  · exact hxy
  · exfalso
    have hyu : y ∈ uniq r := mem_uniq.mpr hy
    have q : (uniq (r.map E)).length ≤ (((uniq r).erase y).map E).length := nodup_le (nodup_uniq _) fun z hz => by
      obtain ⟨u, hu, rfl⟩ := List.mem_map.mp (mem_uniq.mp hz)
      by_cases huy : u = y
      · subst huy
        exact List.mem_map.mpr ⟨x, (List.mem_erase_of_ne hxy).mpr (mem_uniq.mpr hx), e⟩
      · exact List.mem_map.mpr ⟨u, (List.mem_erase_of_ne huy).mpr (mem_uniq.mpr hu), rfl⟩
    rw [List.length_map, List.length_erase_of_mem hyu, h] at q
    have := List.length_pos_of_mem hyu
    omega
theorem alike_map {vs r : List Int} {E : Int → Int} (hi : ∀ x ∈ r, ∀ y ∈ r, E x = E y → x = y) (hv : ∀ x ∈ r, x ∈ vs → E x = x) (hn : ∀ x ∈ r, x ∉ vs → E x ∉ vs) : AlikeR vs (r.map E) r := by
  have gm : ∀ {i : Nat} {a b : Int}, (r.map E)[i]? = some a → r[i]? = some b → a = E b := fun {i a b} ha hb => by
    rw [List.getElem?_map, hb] at ha
    exact (Option.some.inj ha).symm
  refine ⟨List.length_map _, fun i a b ha hb => ?_⟩
  have e := gm ha hb
  subst e
  have hbm := List.mem_of_getElem? hb
  refine ⟨fun v hvv => ⟨fun e => ?_, fun e => ?_⟩, fun j a' b' ha' hb' => ?_⟩
  · by_cases hb2 : b ∈ vs
    · rw [← hv b hbm hb2]; exact e
    · exact (hn b hbm hb2 (e ▸ hvv)).elim
  · rw [e]; exact hv v (e ▸ hbm) hvv
  · have e' := gm ha' hb'
    subst e'
    exact ⟨fun e => hi b hbm b' (List.mem_of_getElem? hb') e, fun e => by rw [e]⟩
/-! ### fresh -/
structure FreshSt (vs found : List Int) (k : Nat) : Prop where
  nd : found.Nodup
  out : ∀ x ∈ found, x ∉ vs ∧ 0 ≤ x ∧ x < (k : Int)
  hit : ∃ hit : List Int, hit.Nodup ∧ (∀ x ∈ hit, x ∈ vs ∧ 0 ≤ x ∧ x < (k : Int)) ∧ k = found.length + hit.length
theorem FreshSt.start (vs : List Int) : FreshSt vs [] 0 := ⟨List.nodup_nil, (fun x h => by cases h), [], List.nodup_nil, (fun x h => by cases h), rfl⟩
theorem FreshSt.few {vs found : List Int} {k : Nat} (h : FreshSt vs found k) : k ≤ found.length + vs.length := by
  obtain ⟨hit, h1, h2, h3⟩ := h.hit
  have := nodup_le h1 fun x hx => (h2 x hx).1
  omega
theorem nodup_snoc {l : List Int} {x : Int} (h : l.Nodup) (hx : x ∉ l) : (l ++ [x]).Nodup := by
  rw [List.nodup_append]
  refine ⟨h, List.nodup_cons.mpr ⟨(fun z => by cases z), List.nodup_nil⟩, fun a ha b hb e => ?_⟩
  have := List.mem_singleton.mp hb
  exact hx (by rw [← this, ← e]; exact ha)
theorem FreshSt.got {vs found : List Int} {k : Nat} (h : FreshSt vs found k) (hk : (k : Int) ∉ vs) : FreshSt vs (found ++ [(k : Int)]) (k + 1) := by
  obtain ⟨h1, h2, hit, h3, h4, h5⟩ := h
  refine ⟨nodup_snoc h1 fun m => by have := (h2 _ m).2.2; omega, fun x hx => ?_, hit, h3, fun x hx => ?_, ?_⟩
  · rcases List.mem_append.mp hx with hx | hx
    · obtain ⟨a, b, c⟩ := h2 x hx
      exact ⟨a, b, by omega⟩
    · have := List.mem_singleton.mp hx
      subst this
      exact ⟨hk, by omega, by omega⟩
  · obtain ⟨a, b, c⟩ := h4 x hx
    exact ⟨a, b, by omega⟩
  · rw [List.length_append, List.length_singleton]; omega
theorem FreshSt.not {vs found : List Int} {k : Nat} (h : FreshSt vs found k) (hk : (k : Int) ∈ vs) : FreshSt vs found (k + 1) := by
  obtain ⟨h1, h2, hit, h3, h4, h5⟩ := h
  refine ⟨h1, fun x hx => ?_, hit ++ [(k : Int)], nodup_snoc h3 fun m => by have := (h4 _ m).2.2; omega, fun x hx => ?_, ?_⟩
  · obtain ⟨a, b, c⟩ := h2 x hx
    exact ⟨a, b, by omega⟩
  · rcases List.mem_append.mp hx with hx | hx
    · obtain ⟨a, b, c⟩ := h4 x hx
      exact ⟨a, b, by omega⟩
    · have := List.mem_singleton.mp hx
      subst this
      exact ⟨hk, by omega, by omega⟩
  · rw [List.length_append, List.length_singleton]; omega
end K17
/-! Rules that the layer lacks: either of two readings, max with a default, == with an empty list, list(d.values()), len(set(..)). -/
namespace K17
open PySem PySem.Spec PyProof.Rows L2
section
variable {X : Cx}
/-- a reading or another one -/
def tEi (t1 t2 : TE) : TE := fun σ H Q => t1 σ H Q ∨ t2 σ H Q
theorem pe_ei {e : Expr} {t1 t2 : TE} (a : PE X e t1) (b : PE X e t2) : PE X e (tEi t1 t2) :=
  ⟨fun pins s σ H Q I h => h.elim (fun h => a.run pins s σ H Q I h) fun h => b.run pins s σ H Q I h⟩
/-- max(xs, default=n) of ints -/
def rMaxDf (K : PySem.W.Frag) : List V → List V → Hp → VK → Prop := fun vs zs H Q => ∃ (a : Addr) (ns : List Int) (n : Int), vs = [V.ref a] ∧ zs = [V.int n] ∧ SqL K H a (ns.map V.int) ∧
  (ns = [] → Q (.int n) H) ∧ ∀ m ∈ ns, (∀ y ∈ ns, y ≤ m) → Q (.int m) H
theorem holds_ints {h : Heap} : ∀ {us : List Value} {ns : List Int}, IntsAre us ns → ∃ as, ReadsAll h us (ns.map PyData.int) as
  | _, _, .nil => ⟨_, .nil⟩
  | _, _, .cons n t r => by
    obtain ⟨as, q⟩ := holds_ints (h := h) r
    exact ⟨_, .cons (.int n t) q⟩
theorem holds_int {h : Heap} {v : Value} {n : Int} (q : PySem.W.Holds h v n) : ∃ t, v = Value.int n t := by
  obtain ⟨as, r⟩ := q
  cases r with
  | int _ t => exact ⟨t, rfl⟩
theorem maxOf_mem : ∀ (xs : List Int) (x : Int), PySem.W.maxOf x xs ∈ x :: xs
  | [], x => List.mem_cons_self
  | y :: ys, x => by
    show PySem.W.maxOf (if PySem.W.DatumOrd.lt x y = true then y else x) ys ∈ x :: y :: ys
    by_cases hlt : PySem.W.DatumOrd.lt x y = true
    · rw [if_pos hlt]
      exact List.mem_cons_of_mem _ (maxOf_mem ys y)
    · rw [if_neg hlt]
      rcases List.mem_cons.mp (maxOf_mem ys x) with e | q
      · rw [e]; exact List.mem_cons_self
      · exact List.mem_cons_of_mem _ (List.mem_cons_of_mem _ q)
theorem lt_int (x y : Int) : PySem.W.DatumOrd.lt x y = decide (x < y) := rfl
theorem maxOf_ge : ∀ (xs : List Int) (x : Int), ∀ y ∈ x :: xs, y ≤ PySem.W.maxOf x xs
  | [], x, y, h => by
    rw [List.mem_singleton.mp h]
    exact Int.le_refl _
  | z :: zs, x, y, h => by
    show y ≤ PySem.W.maxOf (if PySem.W.DatumOrd.lt x z = true then z else x) zs
    rw [lt_int]
    by_cases hlt : x < z
    · rw [decide_eq_true hlt, if_pos rfl]
      have h0 := maxOf_ge zs z z List.mem_cons_self
      rcases List.mem_cons.mp h with e | h
      · rw [e]
        exact Int.le_trans (Int.le_of_lt hlt) h0
      · exact maxOf_ge zs z y h
    · rw [decide_eq_false hlt, if_neg Bool.false_ne_true]
      have h0 := maxOf_ge zs x x List.mem_cons_self
      rcases List.mem_cons.mp h with e | h
      · rw [e]
        exact h0
      · rcases List.mem_cons.mp h with e | h
        · rw [e]
          exact Int.le_trans (Int.not_lt.mp hlt) h0
        · exact maxOf_ge zs x y (List.mem_cons_of_mem _ h)
theorem cr_maxDf (hc : X.calm = true) (room : X.A.units + 1 < cLine) : CallRK X (.builtin "max") [Str.ofString "default"] (rMaxDf X.K) := by
  intro pins s σ H vs zs us ws Q I r rz h
  obtain ⟨a, ns, n, rfl, rfl, hs, q0, q1⟩ := h
  obtain ⟨its, rv, hl, _⟩ := I.list hs
  obtain rfl := Vals.ref1 r
  obtain ⟨w1, rfl, t1, rfl⟩ := vals1 rz
  have HA : PySem.W.HoldAll s.heap its.toArray.toList ns := holds_ints (by simpa using rv.ints)
  refine PySem.W.max_list_datum_default (xs := ns) (I.ok.hd hc) hl.isList HA (by exact room) (fun e h' tk k => ?_) fun y ys i v h' tk e hi hv k => ?_
  · exact ⟨.int n, H, I.kept k, ⟨_, rfl⟩, q0 e⟩
  · obtain ⟨t, rfl⟩ := holds_int hv
    exact ⟨.int _, H, I.kept k, ⟨t, rfl⟩, q1 _ (by rw [e]; exact maxOf_mem ys y) (by rw [e]; exact maxOf_ge ys y)⟩
/-- xs == [] -/
def rEqNil (K : PySem.W.Frag) : R2 := fun x y H Q => ∃ (a b : Addr) (xs : List V), x = .ref a ∧ y = .ref b ∧ SqL K H a xs ∧ SqL K H b [] ∧ Q (.bl xs.isEmpty) H
theorem op_eqNil (room : X.A.units < cLine) : OpR X (compareOp .Eq) (rEqNil X.K) := by
  intro pins s σ H x y v u Q I rx ry h
  obtain ⟨a, b, xs, rfl, rfl, ha, hb, q⟩ := h
  obtain rfl : v = Value.ref a := rx
  obtain rfl : u = Value.ref b := ry
  obtain ⟨us, r1, l1, _⟩ := I.list ha
  obtain ⟨ws, r2, l2, _⟩ := I.list hb
  cases r2
  cases xs with
  | nil =>
    cases r1
    exact PySem.SeqAt.eq_listAt (e := fun _ => true) l1.isList l2.isList rfl room (fun j h1 _ => absurd h1 (by simp)) ⟨.bl true, H, I, rfl, q⟩
  | cons y ys =>
    cases r1 with
    | cons z1 z2 => exact PySem.SeqAt.eq_list_lengthsAt l1.isList l2.isList (by simp) room ⟨.bl false, H, I, rfl, q⟩
/-- list(d.values()) -/
def tListVals (te : TE) : TE := fun σ H Q => te σ H fun x H1 => ∃ (d : Addr) (kvs : List (Key × V)), x = .ref d ∧ H1 d = some (.dK kvs) ∧ ∀ p, H1 p = none → Q (.ref p) (upd H1 p (.lst (kvs.map (·.2))))
theorem vals_kv {κ : Type} : ∀ {kvs : List (κ × V)} {vs : List (κ × Value)}, KV kvs vs → Vals (kvs.map (·.2)) (vs.map (·.2))
  | _, _, .nil => .nil
  | _, _, .cons r t => .cons r.2 (vals_kv t)
theorem pe_listVals {e : Expr} {te : TE} {p apos cpos pos : Pos} (hc : X.calm = true) (he : PE X e te) (hg : Gl X "list") (hm : X.mg "list" = none) (hv : bootBuiltins "list" = some (.type "list"))
    (hbase : attributeBase e "values" X.env (eval e X.env) = eval e X.env := by rfl) (hline : (apos.endLine == cpos.line) = true := by rfl)
    (hst : starEach [.Call (.Attribute e "values" apos) [] [] cpos] X.env = (false, eval (.Call (.Attribute e "values" apos) [] [] cpos) X.env) :: starEach [] X.env := by rfl) :
    PE X (.Call (.Name "list" p) [.Call (.Attribute e "values" apos) [] [] cpos] [] pos) (tListVals te) := by
  refine ⟨fun pins s σ H Q I hq => wpAny_Call_Name_kw (ld_blt I hg hm hv (PyProof.Rows.callWith_type1 ?_ hst rfl))⟩
  rw [hst]
  show wpAny _ _ (spliced ((false, eval (.Call (.Attribute e "values" apos) [] [] cpos) X.env) :: backTo pos (starEach [] X.env))) _ _ s
  refine Calls.spliced_cons (wpAny_Call_method (T := "dict") (id := "dict.values") hbase rfl hline F.plainAttrs_dict F.slot_dict_values F.type_dict_values (thn (he.run pins s σ H _ I hq) fun u s1 ⟨x, H1, I1, rx, d, kvs, ex, hd, q⟩ => ?_))
  subst ex
  obtain rfl : u = Value.ref d := rx
  obtain ⟨hz, hsys, vs, kv, hdo⟩ := I1.hok d _ hd
  obtain ⟨ep, hat⟩ := hdo.dictAt
  have lk : kvs.length = vs.length := Paired.length kv
  refine ⟨hdo.typeIs, hdo.mapOf.noDict, ?_⟩
  show wpAny _ _ (callWith cpos (.builtin "dict.values") [.ref d] [] []) _ X.xe s1
  refine method_meetsIn F.slot_dict_values F.entry_dict_values rfl (PySem.evalArgs_none ⟨rfl, hdo.typeIs, F.args_dict_values_1 _, _, meets_dict_values (mixKind X.prog X.w) d hsys, ⟨vs, hdo⟩, Calls.spliced_nil ?_⟩)
  have I2 : Inv X pins σ H1 { s1 with heap := s1.heap.push { cls := .type "dict_values", data := .fields #[.ref d] } } := I1.kept (t' := s1.toks) fun b ob w => Heap.get?_push_of_some _ w
  refine PySem.W.kdl_call (PySem.W.kdl_values (knd := mixKind X.prog X.w) (kvs := vs) (ep := ep)) (I1.ok.hd hc) ⟨⟨_, Heap.get?_push_size _ rfl, rfl, rfl⟩, hat.push _⟩ (by omega) fun h' tk acc c hk hS hacc => ?_
  have hsz : acc.toList = vs.map (·.2) := PySem.W.kdl_vals_eq acc.toList (by rw [Array.length_toList]; exact hacc.1) fun j v e => hacc.2 j v (by rw [← Array.getElem?_toList]; exact e)
  refine ⟨.ref _, _, I2.laid (o := .lst (kvs.map (·.2))) (t' := tk) hk (Nat.le_refl _) ⟨by rw [List.length_map]; exact hz, vs.map (·.2), c, vals_kv kv, ?_⟩, rfl, q _ (I2.hok.fresh (Nat.le_refl _))⟩
  rw [← hsz, Array.toArray_toList]
  exact hS
/-- len(set(xs)) of ints -/
def tLenSetU (K : PySem.W.Frag) (ta : TE) : TE := fun σ H Q => ta σ H fun x H1 => ∃ (l : Addr) (ns : List Int), x = V.ref l ∧ SqL K H1 l (ns.map V.int) ∧ ns.length < 64 ∧ ∀ us : List Int, us.Nodup → (∀ k, k ∈ us ↔ k ∈ ns) → Q (.int us.length) H1
theorem met_nodup (val : Nat → Int) : ∀ i, (firstMet val i).Nodup
  | 0 => List.nodup_nil
  | i + 1 => by
    rw [firstMet_succ]
    unfold step_dedup
    split
    · exact met_nodup val i
    · rename_i hno
      rw [List.nodup_append]
      refine ⟨met_nodup val i, List.nodup_cons.mpr ⟨(fun z => by cases z), List.nodup_nil⟩, fun a ha b hb e => ?_⟩
      have := List.mem_singleton.mp hb
      exact hno (List.any_eq_true.mpr ⟨a, ha, beq_iff_eq.mpr (e.trans this)⟩)
theorem met_mem (ns : List Int) (k : Int) : k ∈ firstMet (fun i => ns.getD i 0) ns.length ↔ k ∈ ns := by
  have e : (List.range ns.length).map (fun i => ns.getD i 0) = ns := by
    apply List.ext_getElem
    · simp
    · intro i h1 h2
      simp [List.getElem?_eq_getElem h2]
  have q := firstMet_any (fun i => ns.getD i 0) ns.length k
  rw [e] at q
  have m : ∀ l : List Int, l.any (· == k) = true ↔ k ∈ l := fun l => by
    rw [List.any_eq_true]
    exact ⟨fun ⟨x, hx, e⟩ => beq_iff_eq.mp e ▸ hx, fun hk => ⟨k, hk, beq_self_eq_true k⟩⟩
  rw [← m, q, m]
theorem pe_lenSetU {a : Expr} {ta : TE} {p p2 q pos : Pos} (hc : X.calm = true) (hg : Gl X "len") (hm : X.mg "len" = none) (hg2 : Gl X "set") (hm2 : X.mg "set" = none) (ha : PE X a ta)
    (nst : starEach [a] X.env = (false, eval a X.env) :: starEach [] X.env := by rfl) : PE X (.Call (.Name "len" p) [.Call (.Name "set" p2) [a] [] q] [] pos) (tLenSetU X.K ta) := by
  refine ⟨fun pins s σ H Q I h => Call_ (ld_blt I hg hm PySem.boot_len (PyProof.Rows.callWith_builtin1 (PyProof.Rows.args_cons ?_ rfl) rfl rfl))⟩
  refine Call_ (ld_blt I hg2 hm2 PyProof.Rows.boot_set (PyProof.Rows.callWith_type1 (PyProof.Rows.args_cons (thn (ha.run pins s σ H _ I h) fun v s1 ⟨x, H1, I1, r1, w1⟩ => PyProof.Rows.args_nil ?_) nst) nst rfl))
  obtain ⟨l, ns, rfl, hq, h64, qq⟩ := w1
  cases r1
  obtain ⟨its, rv, pl, hz⟩ := I1.list hq
  have hlen : its.toArray.size = ns.length := by rw [List.size_toArray, ← rv.length, List.length_map]
  refine call_set_list (ns := ns) (I1.ok.hd hc) pl.isList (by simpa using rv.ints) (by unfold scanBound; omega) fun h' tk hS hk => PyProof.Rows.args_nil ?_
  rw [hlen] at hS
  obtain ⟨o, es, ep, t, ho, hex, hd, _, _, _, hf, hn⟩ := hS
  have few := firstMet_length_le (fun i => ns.getD i 0) ns.length
  have J : Inv X pins σ H1 { s1 with heap := h', toks := tk } := I1.kept fun b o e => hk b o (Heap.lt_size e) e
  exact call_len_set ho hex hd hf (by rw [hn]; omega) ⟨.int _, H1, J.tok _, ⟨_, by rw [hn]⟩, qq _ (met_nodup _ _) (met_mem ns)⟩
end
end K17
/-! The text by places. -/
namespace K17
open PySem L2
def top (i : Nat) : Stmt := PySem.Challenge.pw_maybetables_k17_whole_one_truth_for_a_ki.main.body.getD i (.Pass ⟨0, 0, 0, 0⟩)
abbrev sIsGap : Stmt := top 6
abbrev sComeTo : Stmt := top 7
abbrev sCCells : Stmt := inClass (top 8) 0
abbrev sGaps : Stmt := inClass (top 8) 3
abbrev sTruth : Stmt := inClass (top 8) 6
abbrev sTInit : Stmt := inClass (top 9) 0
abbrev sTHolds : Stmt := inClass (top 9) 1
abbrev sSInit : Stmt := inClass (top 10) 0
abbrev sSCells : Stmt := inClass (top 10) 1
abbrev sSHolds : Stmt := inClass (top 10) 2
abbrev sVInit : Stmt := inClass (top 11) 0
abbrev sVCells : Stmt := inClass (top 11) 1
abbrev sAHolds : Stmt := inClass (top 12) 0
abbrev sOHolds : Stmt := inClass (top 13) 0
abbrev sPInit : Stmt := inClass (top 14) 0
abbrev sPCells : Stmt := inClass (top 14) 1
abbrev sPHolds : Stmt := inClass (top 14) 2
abbrev sBound : Stmt := top 17
abbrev sFresh : Stmt := top 18
abbrev sKinds : Stmt := top 19
abbrev sAt : Stmt := top 21
abbrev sNames : Stmt := top 22
abbrev sValue : Stmt := top 23
abbrev sValues : Stmt := top 24
abbrev sGrown : Stmt := top 25
abbrev sCond : Stmt := top 26
abbrev sFilling : Stmt := top 27
abbrev sAlike : Stmt := top 28
abbrev sExch : Stmt := top 29
abbrev sLaw : Stmt := top 30
end K17
/-! Sets of texts that were made from a list, and the sorted list of their members: each member is one of the list's. -/
namespace K17
open PySem PySem.Spec PyProof.Rows L2
/-- an entry: a text of xs under its hash -/
def TxE (w : World) (xs : List Str) (e : Int × Value) : Prop := ∃ z u, z ∈ xs ∧ e.2 = Value.str z u ∧ e.1 = hashStr w z
/-- a set of texts stands at a: each of xs, at most n -/
def TxR (w : World) (h : Heap) (a : Addr) (xs : List Str) (n : Nat) : Prop :=
  ∃ ob rows ver tab, h.get? a = some ob ∧ ob.ExactSet ∧ ob.data = .set rows ver tab ∧ (∀ e ∈ rows.toList, TxE w xs e) ∧ rows.size ≤ n ∧ rows.size < scanBound ∧
    tab.fits rows.size = true ∧ Ris tab.place.toList ∧ (w.params.followText "set-order" = true ∨ tab.led = true)
theorem TxR.keep {w : World} {h h' : Heap} {a : Addr} {xs : List Str} {n : Nat} (R : TxR w h a xs n) (k : ∀ o, h.get? a = some o → h'.get? a = some o) : TxR w h' a xs n := by
  obtain ⟨ob, rows, ver, tab, e, rest⟩ := R
  exact ⟨ob, rows, ver, tab, k ob e, rest⟩
theorem TxR.wide {w : World} {h : Heap} {a : Addr} {xs ys : List Str} {n m : Nat} (R : TxR w h a xs n) (hs : ∀ z ∈ xs, z ∈ ys) (hn : n ≤ m) : TxR w h a ys m := by
  obtain ⟨ob, rows, ver, tab, e, x, d, g, l, rest⟩ := R
  exact ⟨ob, rows, ver, tab, e, x, d, fun p hp => (let ⟨z, u, m, r⟩ := g p hp; ⟨z, u, hs z m, r⟩), Nat.le_trans l hn, rest⟩
section
variable {P : Program} {w : World} {A : Around} {E : Value → Shared → Prop} {s : Shared} {a : Addr} {xs : List Str} {n : Nat}
theorem tx_elems {l : List (Int × Value)} (g : ∀ e ∈ l, TxE w xs e) : ElemsOf (strKind P w) l := fun e he => by
  obtain ⟨z, u, _, h1, h2⟩ := g e he
  refine ⟨⟨z, ?_, h2⟩, by rw [h1] <;> rfl⟩
  rw [h1]
  show Value.isStrOf z (Value.str z u) = true
  simp [Value.isStrOf]
/-- behind the row's choice: the rows stored, and laid anew where they are too many -/
theorem tx_stored {gv : Bool → Sem Unit} (hgv : ∀ (b : Bool) (s1 : Shared) (R1 : Unit → Shared → Prop), R1 () s1 → wpAny (model P w) A (gv b) R1 E s1)
    {ob : Obj} {rows new : Array (Int × Value)} {ver : Nat} {tab tab2 : SetTable} (hO : s.heap.get? a = some ob) (hX : ob.ExactSet) (hD : ob.data = .set rows ver tab)
    (gN : ∀ e ∈ new.toList, TxE w xs e) (hN : new.size ≤ n) (hB : new.size < scanBound) (hF : tab2.fits new.size = true) (hR : Ris tab2.place.toList) (hL : w.params.followText "set-order" = true ∨ tab2.led = true)
    {was : Bool} {R : Option Bool → Shared → Prop} (kR : ∀ h', Heap.SameBut a s.heap h' → TxR w h' a xs n → R (some true) { s with heap := h' }) :
    wpAny (model P w) A (do
        storeSet a new tab2
        if (!was && tab2.tooFull) = true then do
            gv (relayAll tab2 new (SetTable.grown new.size)).2.2
            storeSet a (relayAll tab2 new (SetTable.grown new.size)).1 (relayAll tab2 new (SetTable.grown new.size)).2.1
            pure (some true)
          else pure (some true)) R E s := by
  have at1 := store_at (es' := new) (t' := tab2) hO hD
  have sb := Heap.SameBut.update s.heap a (Obj.putSet new tab2)
  refine wpAny_bind (wpAny_storeSet_of hO hD ?_ (fits_of_scanBound hB))
  split
  · have q1 := relayAll_perm tab2 new (SetTable.grown new.size)
    have q2 := relayAll_fits tab2 new (SetTable.grown new.size)
    have q3 := relayAll_ris tab2 new (SetTable.grown new.size)
    have q4 := relayAll_led tab2 new (SetTable.grown new.size)
    generalize relayAll tab2 new (SetTable.grown new.size) = W at q1 q2 q3 q4 ⊢
    obtain ⟨rows3, tab3, gave⟩ := W
    dsimp only at q1 q2 q3 q4 ⊢
    have sz : rows3.size = new.size := by rw [← Array.length_toList, q1.length_eq, Array.length_toList]
    refine wpAny_bind (hgv _ _ _ (wpAny_bind (wpAny_storeSet_of at1 rfl ?_ (fits_of_scanBound (by rw [sz]; exact hB)))))
    have at2 := store_at (es' := rows3) (t' := tab3) at1 rfl
    exact wpAny_pure (kR _ (sb.trans (Heap.SameBut.update _ a _)) ⟨_, rows3, _, tab3, at2, hX, rfl, fun e he => gN e (q1.mem_iff.mp he), by rw [sz]; exact hN, by rw [sz]; exact hB, q2, q3, hL.imp id fun z => by rw [q4]; exact z⟩)
  · exact wpAny_pure (kR _ sb ⟨_, new, _, tab2, at1, hX, rfl, gN, hN, hB, hF, hR, hL⟩)
/-- one more text is put in -/
theorem tx_put {z : Str} {u : Tok} {Q : Bool → Shared → Prop} (R : TxR w s.heap a xs n) (room : n + 1 < scanBound)
    (hQ : ∀ h' b, Heap.SameBut a s.heap h' → TxR w h' a (z :: xs) (n + 1) → Q b { s with heap := h' }) :
    wpAny (model P w) A (setAddHashed a (.str z u) (hashStr w z)) Q E s := by
  obtain ⟨ob, rows, ver, tab, hO, hX, hD, g, hn, hB, hF, hR, hL⟩ := id R
  have hK : (strKind P w).is z (.str z u) = true := by
    show Value.isStrOf z (Value.str z u) = true
    simp [Value.isStrOf]
  have scn : (Value.str z u).scannable = true := rfl
  have hE : ElemsOf (strKind P w) rows.toList := tx_elems g
  have gw : ∀ (b : Bool) (s1 : Shared) (R1 : Unit → Shared → Prop), R1 () s1 → wpAny (model P w) A (match b with | true => rule "set.scan.the-table-gave-way" | false => pure ()) R1 E s1 :=
    fun b s1 R1 q => by cases b <;> first | exact wpAny_pure q | exact wpAny_rule q
  unfold setAddHashed setAddHashedIn
  refine wpAny_holding (wpAny_bind (wpAny_setState_of hO hD hF ?_))
  dsimp only
  rw [byScan_of scn hB hE]
  simp only [↓reduceIte]
  unfold setAddByScan
  refine wpAny_bind (wpAny_bind (wpAny_rule (wpAny_bind ?_)))
  refine wpAny_setScan_of (knd := strKind P w) hK hO hD hF hE ?_
  cases List.findIdx? (fun e => (strKind P w).is z e.2) rows.toList with
  | some j =>
    dsimp only
    exact wpAny_pure (wpAny_pure (hQ s.heap _ (Heap.SameBut.refl a s.heap) (R.wide (fun y hy => List.mem_cons_of_mem _ hy) (Nat.le_succ n))))
  | none =>
    dsimp only
    have p1 := layNew_perm tab rows (hashStr w z) (.str z u)
    have p2 := layNew_fits tab rows (hashStr w z) (.str z u)
    have p3 := layNew_ris tab rows (hashStr w z) (.str z u) hR
    have p4 := layNew_led tab rows (hashStr w z) (.str z u)
    show wpAny _ _ (match layNew tab rows (hashStr w z) (.str z u) with | (es, t, wasDummy, gave) => _ ) _ _ s
    generalize layNew tab rows (hashStr w z) (.str z u) = W at p1 p2 p3 p4 ⊢
    obtain ⟨new, tab1, was, gave⟩ := W
    dsimp only at p1 p2 p3 p4 ⊢
    rw [Array.toList_push] at p1
    have gN : ∀ e ∈ new.toList, TxE w (z :: xs) e := fun e he => by
      rcases List.mem_append.mp (p1.mem_iff.mp he) with m | m
      · obtain ⟨y, t, hy, r⟩ := g e m
        exact ⟨y, t, List.mem_cons_of_mem _ hy, r⟩
      · exact ⟨z, u, List.mem_cons_self, by rw [List.mem_singleton.mp m], by rw [List.mem_singleton.mp m]⟩
    have sz : new.size = rows.size + 1 := by rw [← Array.length_toList, p1.length_eq, List.length_append, Array.length_toList]; rfl
    have hN : new.size ≤ n + 1 := by omega
    have hB1 : new.size < scanBound := by omega
    have led1 : w.params.followText "set-order" = true ∨ tab1.led = true := hL.imp id fun q => by rw [p4]; exact q
    refine wpAny_bind (gw _ _ _ ?_)
    split
    · refine wpAny_bind ?_
      rw [hashByValue_scannable 8 scn]
      refine wpAny_pure (tx_stored (n := n + 1) gw hO hX hD gN hN hB1 ?_ ?_ ?_ ?_)
      · first | (split <;> first | exact p2 | exact SetTable.fits_plain_off p2) | exact p2 | exact SetTable.fits_plain_off p2
      · first | (split <;> exact p3) | exact p3
      · first | (split <;> exact led1) | exact led1
      · intro h' sb r
        dsimp only
        exact wpAny_pure (hQ h' _ sb r)
    · refine wpAny_bind (wpAny_pure ?_)
      simp only [↓reduceIte]
      refine tx_stored (n := n + 1) gw hO hX hD gN hN hB1 p2 p3 led1 ?_
      intro h' sb r
      dsimp only
      exact wpAny_pure (hQ h' _ sb r)
/-- the texts of the list so far, the latest first -/
def gone (xs : List Str) (i : Nat) : List Str := (xs.take i).reverse
theorem gone_succ {xs : List Str} {i : Nat} {z : Str} (e : xs[i]? = some z) : gone xs (i + 1) = z :: gone xs i := by
  unfold gone
  rw [List.take_add_one, e, Option.toList_some, List.reverse_append]
  rfl
/-- the loop of set.update over an iterator of texts -/
theorem tx_loop {I S : Addr} {fp wr : List Addr} {G : Array GenState → Array GenState → Prop} {m : Nat} {Pv : Nat → Value → Prop} {Sx : Nat → Shared → Prop} {R : Result → Shared → Prop}
    (W : WalksS P w A.in1 I fp wr G m Pv Sx) (hSf : S ∉ fp) (hm : m = xs.length) (hb : m + 1 < scanBound) (val : ∀ i v, Pv i v → ∃ z u, xs[i]? = some z ∧ v = Value.str z u) :
    ∀ (left i : Nat) (s : Shared), m - i = left → i ≤ m → Sx i s → TxR w s.heap S (gone xs i) i →
      (∀ s', Moved (S :: wr) G s s' → TxR w s'.heap S (gone xs m) m → R (.ok (.ret .none)) s') →
      codeAny (model P w) A (.builtin "set.update.loop" ⟨[.ref S, .ref I], []⟩) R s := by
  have off : S ∉ wr := fun h => hSf (W.sub _ h)
  have up : ∀ b ∈ wr, b ∈ S :: wr := fun b hb => List.mem_cons_of_mem _ hb
  intro left
  induction left with
  | zero =>
    intro i s e hi st T k
    have : i = m := by omega
    subst this
    refine codeAny_builtin F.entry_set_update_loop ?_
    rw [Around.under_plainId F.plain_set_update_loop _]
    show wpAny _ A.in1 (pyNext (.ref I) >>= _) _ _ s
    refine wpAny_bind (W.done s _ _ st fun s' mv => ?_)
    show wpAny _ A.in1 (ret Value.none) _ _ s'
    exact wpAny_pure (k s' (mv.mono up) (T.keep fun o q => mv.heap S o off q))
  | succ left ih =>
    intro i s e hi st T k
    have hlt : i < m := by omega
    refine codeAny_builtin F.entry_set_update_loop ?_
    rw [Around.under_plainId F.plain_set_update_loop _]
    show wpAny _ A.in1 (pyNext (.ref I) >>= _) _ _ s
    refine wpAny_bind (W.item i s _ _ hlt st fun v s' hv st' mv => ?_)
    obtain ⟨z, u, hz, rfl⟩ := val i v hv
    have T' : TxR w s'.heap S (gone xs i) i := T.keep fun o q => mv.heap S o off q
    show wpAny _ A.in1 (holding [Value.str z u] (setAdd S (.str z u)) >>= _) _ _ s'
    refine wpAny_bind (wpAny_holding ?_)
    unfold setAdd
    refine wpAny_holding (wpAny_bind (wpAny_pyHash_str ?_))
    refine tx_put (s := { s' with toks := s'.toks + 1 }) T' (by omega) fun h' b sb T2 => ?_
    rw [← gone_succ hz] at T2
    refine wpAny_pure ⟨plainId_quiet F.plain_set_update_loop _, ih (i + 1) _ (by omega) hlt (W.frame _ s' _ _ st' (Nat.le_succ _) fun c hc o q => ?_) T2 fun s'' mv2 T3 => k s'' (Moved.trans W.gtrans ((mv.mono up).then_heap (Nat.le_succ _) fun c o hc q => ?_) mv2) T3⟩
    · exact (sb.2 c fun y => hSf (y ▸ hc)).trans q
    · exact (sb.2 c fun y => hc (y ▸ List.mem_cons_self)).trans q
/-- a new set, as it is laid -/
abbrev set0 (w : World) : Obj := { cls := .type "set", dict := none, data := .set #[] 0 (.fresh 0 0 (!w.params.followText "set-order")) }
theorem tx_fresh {h : Heap} {S : Addr} (e : h.get? S = some (set0 w)) : TxR w h S [] 0 :=
  ⟨_, #[], 0, _, e, ⟨rfl, rfl, rfl⟩, rfl, (fun p hp => by simp at hp), Nat.le_refl _, (by decide), (by rfl), List.Pairwise.nil, (by decide : ∀ b : Bool, b = true ∨ (!b) = true) _⟩
set_option maxHeartbeats 3200000 in
/-- set(xs), xs a list of texts -/
theorem call_setTx {l : Addr} {items : Array Value} {Q : Value → Shared → Prop} (hh : A.handled = none) (hl : s.heap.IsList l items) (hx : StrsAre items.toList xs) (hb : xs.length + 1 < scanBound)
    (k : ∀ (h' : Heap) (tk : Nat), TxR w h' s.heap.objs.size xs xs.length → (∀ b o, s.heap.get? b = some o → h'.get? b = some o) → Q (.ref s.heap.objs.size) { s with heap := h', toks := tk }) :
    wpAny (model P w) A (call (.type "set") [.ref l]) Q E s := by
  have len : items.size = xs.length := by rw [← Array.length_toList]; exact hx.length
  obtain ⟨c1, c2, mro⟩ := F.called_set.mro
  have m1 := F.called_set.made
  have m2 := F.called_set.sub
  refine wpAny_call (codeAny_of_tree ?_)
  show wpAny _ _ (callAny (.type "set") _) _ _ _
  refine wpAny_pure ⟨Code.quiet_builtin _ (by decide +kernel), codeAny_builtin F.entry_type_call ?_⟩
  rw [Around.under_plain (weight_type_call_type "set" [.ref l] []) rfl]
  have m3 := F.called_set.notType
  have m4 := F.called_set.canCreate
  have m5 := F.typeCall_set_1 (.ref l)
  repeat (any_goals (first | assumption | wp_step))
  refine codeAny_mono (code_set_led1 (.ref l) (E := E) (Q₁ := fun r s1 => r = .ref s.heap.objs.size ∧ s1 = { s with heap := s.heap.push (set0 w) }) ⟨rfl, rfl⟩) fun r s1 hr => ?_
  cases r with
  | error e => exact hr
  | ok fl =>
    cases fl with
    | ret ob =>
      obtain ⟨rfl, rfl⟩ := hr
      have at0 : (s.heap.push (set0 w)).get? s.heap.objs.size = some (set0 w) := Heap.get?_push_size _ rfl
      have ty0 : Shared.TypeIs { s with heap := s.heap.push (set0 w) } (.ref s.heap.objs.size) "set" := ⟨_, at0, rfl⟩
      have i1 := F.called_set.init.lookup
      have i2 := F.called_set.init.bind (.ref s.heap.objs.size)
      repeat (any_goals (first | assumption | wp_step))
      refine codeAny_mono (codeAny_call_builtin (R := wants (fun r s2 => r = .none ∧ ∃ h' tk, s2 = { s with heap := h', toks := tk } ∧ TxR w h' s.heap.objs.size xs xs.length ∧ (∀ b o, s.heap.get? b = some o → h'.get? b = some o)) E)
        F.called_set.init.plain F.entry_set_init (check_set_init_1 ty0 ?_)) fun r2 s2 hr2 => ?_
      · obtain ⟨⟨lc, ld, dt, ls⟩, hol, hcl, nl, hdl⟩ := hl
        simp only at hcl hdl
        subst hcl
        subst hdl
        have at1 : (s.heap.push (set0 w)).get? l = some { cls := .type "list", dict := ld, data := .seq items nl, slots := ls } := Heap.get?_push_of_some _ hol
        have il : (s.heap.push (set0 w)).IsList l items := ⟨_, at1, rfl, nl, rfl⟩
        have u1 := F.sub_list_set
        have u2 := F.sub_list_frozenset
        have u3 : (Value.type "list" == Value.type "dict") = false := by decide
        unfold Builtin.«set.__init__» noKeywords Builtin.Frozenset.updateFrom
        generalize hIt : pyIter = It
        wp_walk
        subst hIt
        refine wpAny_pyIter_list il (wpAny_bind (wpAny_runValue ?_))
        have lS : l < s.heap.objs.size := Heap.lt_size hol
        have calm3 : A.in1.in1.in1.handled = none := by simp [hh]
        have szI : (s.heap.push (set0 w)).objs.size = s.heap.objs.size + 1 := Heap.size_push ..
        have neI : l ≠ (s.heap.push (set0 w)).objs.size := by rw [szI]; exact Nat.ne_of_lt (Nat.lt_succ_of_lt lS)
        have offS : s.heap.objs.size ∉ [(s.heap.push (set0 w)).objs.size, l] := by
          rw [szI]
          intro z
          rcases List.mem_cons.mp z with z | z
          · exact absurd z (Nat.ne_of_lt (Nat.lt_succ_self _))
          · exact absurd (List.mem_singleton.mp z) (Nat.ne_of_gt lS)
        have val : ∀ (i : Nat) (v : Value), items[i]? = some v → ∃ z u, xs[i]? = some z ∧ v = Value.str z u := fun i v hv => by
          have hi : i < xs.length := by rw [← len]; exact (Array.getElem?_eq_some_iff.mp hv).1
          obtain ⟨u, e⟩ := hx.get i xs[i] (List.getElem?_eq_getElem hi)
          rw [Array.getElem?_toList, hv] at e
          exact ⟨xs[i], u, List.getElem?_eq_getElem hi, Option.some.inj e⟩
        refine tx_loop (xs := xs) ((Walks.list calm3 _ l neI items).toS) offS len (by rw [len]; exact hb) val (items.size - 0) 0 _ rfl (Nat.zero_le _)
          ⟨⟨_, Heap.get?_push_size _ rfl, rfl, rfl⟩, il.push _⟩ (tx_fresh (Heap.get?_push_of_some _ at0)) fun s' mv T => ?_
        obtain ⟨h', g', d', tk', os'⟩ := s'
        have eg : g' = s.gens := mv.gens
        have ed : d' = s.drawn := mv.drawn
        have eo : os' = s.os := mv.os
        subst eg
        subst ed
        subst eo
        show wpAny _ _ _ _ _ _
        refine wpAny_pure ?_
        show wpAny _ _ (ret Value.none) _ _ _
        refine wpAny_pure ⟨rfl, h', tk', rfl, ?_, fun b o hb => ?_⟩
        · rw [len] at T
          refine T.wide (fun z hz => ?_) (Nat.le_refl _)
          unfold gone at hz
          rw [List.take_length] at hz
          exact List.mem_reverse.mp hz
        · have lb := Heap.lt_size hb
          refine mv.heap b o (fun z => ?_) (Heap.get?_push_of_some _ (Heap.get?_push_of_some _ hb))
          rcases List.mem_cons.mp z with z | z
          · exact absurd z (Nat.ne_of_lt lb)
          · have z := List.mem_singleton.mp z
            rw [szI] at z
            exact absurd z (Nat.ne_of_lt (Nat.lt_succ_of_lt lb))
      · cases r2 with
        | error e => exact hr2
        | ok fl2 =>
          cases fl2 with
          | ret r =>
            obtain ⟨rfl, h', tk, rfl, T, hk⟩ := hr2
            repeat (any_goals (first | assumption | wp_step))
            exact k _ _ T hk
          | _ => exact hr2.elim
    | _ => exact hr.elim
end
end K17
/-! Sets of texts that were made from a list, and the sorted list of their members: each member is one of the list's. -/
namespace K17
open PySem PySem.Spec PyProof.Rows L2
section
variable {P : Program} {w : World} {A : Around} {E : Value → Shared → Prop} {s : Shared} {a : Addr} {xs : List Str} {n : Nat}
/-- sorted(set) -/
theorem call_sortedTx {Q : Value → Shared → Prop} (R : TxR w s.heap a xs n) (hh : A.handled = none)
    (k : ∀ s' p (out : Array Value) (c : Nat) (ys : List Str), (∀ b o, s.heap.get? b = some o → s'.heap.get? b = some o) → s'.gens = s.gens → s'.os = s.os → s.heap.objs.size ≤ p →
      s'.heap.get? p = some (seqObj "list" out c) → StrsAre out.toList ys → (∀ z ∈ ys, z ∈ xs) → ys.length ≤ n → Q (.ref p) s') :
    wpAny (model P w) A (call (.builtin "sorted") [.ref a]) Q E s := by
  obtain ⟨ob, rows, ver, tab, hO, hX, hD, g, hn, hB, hF, hR, hL⟩ := R
  refine Calls.call_function_entry kind_sorted plain_sorted entry_sorted (args_sorted1 _) ?_
  unfold Builtin.«sorted»
  refine wpAny_bind (m := checkCount "sorted" 1 1 _) (wpAny_pure (wpAny_bind ?_))
  refine collect_set (A := A.in1) hh ⟨ob, hO, hX.1, hD⟩ hF hB hR hL fun s1 us k1 sz g1 o1 pm => ?_
  have txts : ∀ l : List Value, (∀ v ∈ l, v ∈ rows.toList.map (·.2)) → ∃ zs, StrsAre l zs ∧ ∀ z ∈ zs, z ∈ xs := by
    intro l
    induction l with
    | nil => exact fun _ => ⟨[], .nil, fun z hz => by cases hz⟩
    | cons v l ih =>
      intro hl
      obtain ⟨e, he, q⟩ := List.mem_map.mp (hl v List.mem_cons_self)
      obtain ⟨z, u, hz, h1, _⟩ := g e he
      obtain ⟨zs, b1, b2⟩ := ih fun y hy => hl y (List.mem_cons_of_mem _ hy)
      rw [← q, h1]
      exact ⟨z :: zs, .cons z u b1, fun y hy => (List.mem_cons.mp hy).elim (fun e => e ▸ hz) (b2 y)⟩
  obtain ⟨zs, hZ, sub⟩ := txts us fun v hv => pm.mem_iff.mp hv
  have len : us.length = rows.size := by rw [pm.length_eq, List.length_map, Array.length_toList]
  have fitS : us.length ≤ sizeLine := by rw [len]; exact fits_of_scanBound hB
  refine wpAny_bind (wpAny_newList ?_ fitS)
  have atL : (s1.heap.push (seqObj "list" us.toArray 0)).get? s1.heap.objs.size = some (seqObj "list" us.toArray 0) := Heap.get?_push_size _ rfl
  refine wpAny_bind (wpAny_holding (wpAny_call_entry slot_list_sort ⟨_, atL, rfl⟩ entry_list_sort (list_sort_treeKAny strKind_oneLt atL hZ.keysOf (fun v1 v2 rest e => keyKind_strs (by rw [← e]; exact hZ)) fitS fun st' a1 a2 => ⟨_, rfl, ?_⟩) (args_list_sort _)))
  obtain ⟨ys, q1, q2, _⟩ := sorted_out_str hZ a1 a2
  obtain ⟨c, hc⟩ := sortedHeap_at (vs := us) (out := (arrOf st').map (·.2)) atL
  refine wpAny_pure ⟨_, rfl, k _ s1.heap.objs.size _ c ys (fun b o q => ?_) g1 o1 sz hc q1 (fun z hz => sub z (q2.mem_iff.mp hz)) (by rw [q2.length_eq, ← hZ.length, len]; exact hn)⟩
  have q' := k1 b o q
  have lt := Heap.lt_size q'
  show (sortedHeap (s1.heap.push (seqObj "list" us.toArray 0)) s1.heap.objs.size us ((arrOf st').map (·.2))).get? b = some o
  rw [sortedHeap_old (Nat.ne_of_lt lt) (by rw [size_push']; exact Nat.lt_succ_of_lt lt)]
  exact Heap.get?_push_of_some _ q'
end
/-- the set as a tracked object -/
def TxO (w : World) (a : Addr) (xs : List Str) (n : Nat) : HO := .ext fun h => TxR w h a xs n
section
variable {X : Cx}
theorem txO_ok {P : Program} {w : World} {H : Hp} {h : Heap} {a : Addr} {xs : List Str} {n : Nat} (R : TxR w h a xs n) : ObjOk P w H h a (TxO w a xs n) :=
  ⟨R, (let ⟨ob, _, _, _, e, _⟩ := R; ⟨ob, e⟩), fun _ _ p k => TxR.keep p k⟩
def rSetTx (K : PySem.W.Frag) (w : World) : List V → Hp → VK → Prop := fun vs H Q => ∃ (l : Addr) (xs : List Str), vs = [V.ref l] ∧ SqL K H l (xs.map V.str) ∧ xs.length + 1 < scanBound ∧ ∀ a, H a = none → Q (.ref a) (upd H a (TxO w a xs xs.length))
theorem cr_setTx (hc : X.calm = true) : CallR X (.type "set") (rSetTx X.K X.w) := by
  intro pins s σ H vs us Q I r h
  obtain ⟨l, xs, rfl, hs, hb, q⟩ := h
  obtain ⟨its, rv, pl, _⟩ := I.list hs
  obtain rfl := Vals.ref1 r
  refine call_setTx (xs := xs) (I.ok.hd hc) pl.isList (by simpa using rv.strs) hb fun h' tk T hk => ?_
  exact ⟨.ref _, _, I.laid (t' := tk) hk (Nat.le_refl _) (txO_ok T), rfl, q _ (I.hok.fresh (Nat.le_refl _))⟩
def rSortedTx (w : World) : List V → Hp → VK → Prop := fun vs H Q => ∃ (a : Addr) (xs : List Str) (n : Nat), vs = [V.ref a] ∧ H a = some (TxO w a xs n) ∧ n ≤ 1000 ∧ ∀ (ys : List Str) (p : Addr), (∀ z ∈ ys, z ∈ xs) → ys.length ≤ n → H p = none → Q (.ref p) (upd H p (.lst (ys.map V.str)))
theorem cr_sortedTx (hc : X.calm = true) : CallR X (.builtin "sorted") (rSortedTx X.w) := by
  intro pins s σ H vs us Q I r h
  obtain ⟨a, xs, n, rfl, ha, hn, q⟩ := h
  obtain rfl := Vals.ref1 r
  refine call_sortedTx (I.hok a _ ha).1 (I.ok.hd hc) fun s' p out c ys k g o hp hg hS sub len => ?_
  have fit : (ys.map V.str).length ≤ sizeLine := by rw [List.length_map]; exact Nat.le_of_lt (small1000 (Nat.le_trans len hn))
  have new : H p = none := I.hok.fresh hp
  have J : Inv X pins σ (upd H p (.lst (ys.map V.str))) { s with heap := s'.heap, gens := s'.gens, drawn := s'.drawn, toks := s'.toks } :=
    I.call (ch := []) (Un.laid k hp new) (I.hok.laid k hp ⟨fit, out.toList, c, vals_of_strs hS, hg⟩) (by rw [g]; exact I.bare) (fun _ z => nomatch z)
  have e : { s with heap := s'.heap, gens := s'.gens, drawn := s'.drawn, toks := s'.toks } = s' := by
    cases s'
    cases s
    cases o
    rfl
  rw [e] at J
  exact ⟨.ref p, _, J, rfl, q ys p sub len new⟩
end
end K17
/-! What a condition is in memory; it holds alike where the fillings are alike. -/
namespace K17
open PySem PySem.Spec PyProof.Rows L2 Evl
/-! ### values by a property -/
def EvP (te : TE) (σ : L2.St) (H : Hp) (P : V → Hp → Prop) : Prop := ∀ H1, Ex H H1 → ∀ Q : VK, (∀ v H2, Ex H1 H2 → P v H2 → Q v H2) → te σ H1 Q
/-- the two shapes of a promise's end -/
def RetP (P : V → Hp → Prop) (H : Hp) (Q : VK) : Prop := ∀ v H2, Ex H H2 → P v H2 → Q v H2
theorem RetP.go {P : V → Hp → Prop} {H H' : Hp} {Q : VK} (k : RetP P H Q) (e : Ex H H') {v : V} (h : P v H') : Q v H' := k v H' e h
theorem RetP.at {P : V → Hp → Prop} {H H' : Hp} {Q : VK} (k : RetP P H Q) (e : Ex H H') : RetP P H' Q := fun v H2 e2 h => k v H2 (e.trans e2) h
theorem RetV.at {v : V} {H H' : Hp} {Q : VK} (k : RetV v H Q) (e : Ex H H') : RetV v H' Q := fun H2 e2 => k H2 (e.trans e2)
section
variable {K : PySem.W.Frag} {σ : L2.St} {H H' : Hp} {te : TE} {tz : TS} {D : Ends} {P P' : V → Hp → Prop} {x v : V}
theorem EvP.mono (e : Ex H H') (h : EvP te σ H P) : EvP te σ H' P := fun H1 a Q q => h H1 (e.trans a) Q q
theorem evp_of (h : Ev te σ H v) (hp : ∀ H1, Ex H H1 → P v H1) : EvP te σ H P := fun H1 e Q q => h H1 e Q fun H2 e2 => q v H2 e2 (hp H2 (e.trans e2))
theorem evp_list {xs : List V} (h : EvL te σ H xs) : EvP te σ H fun v H1 => ∃ p, v = .ref p ∧ H1 p = some (.lst xs) := fun H1 e Q q => h H1 e Q fun p H2 _ e2 hp => q _ H2 e2 ⟨p, rfl, hp⟩
theorem evp_imp (h : EvP te σ H P) (k : ∀ v H1, Ex H H1 → P v H1 → P' v H1) : EvP te σ H P' := fun H1 e Q q => h H1 e Q fun v H2 e2 p => q v H2 e2 (k v H2 (e.trans e2) p)
theorem evp_call {sp : Sp} {dvs vs : List V} {E : XK} {ta : TA} (h : EvA ta σ H vs) (hs : ∀ H1, Ex H H1 → ∀ Q, RetP P H1 Q → ∀ E, sp (vs ++ dvs) H1 Q E) : EvP (tCall sp dvs E ta) σ H P := fun H1 e Q q =>
  h H1 e _ fun H2 e2 => hs H2 (e.trans e2) Q (fun v H3 e3 p => q v H3 (e2.trans e3) p) E
theorem ev_callV {sp : Sp} {dvs vs : List V} {E : XK} {ta : TA} {z : V} (h : EvA ta σ H vs) (hs : ∀ H1, Ex H H1 → ∀ Q, RetV z H1 Q → ∀ E, sp (vs ++ dvs) H1 Q E) : Ev (tCall sp dvs E ta) σ H z := fun H1 e Q q =>
  h H1 e _ fun H2 e2 => hs H2 (e.trans e2) Q (fun H3 e3 => q H3 (e2.trans e3)) E
theorem s_asgP {i : Nat} (h : EvP te σ H P) (k : ∀ v H1, Ex H H1 → P v H1 → D.nx (σ.set i (some v)) H1) : tAsg te (gName i) D σ H := h H (Ex.refl H) _ k
theorem q_asgP {i : Nat} (h : EvP te σ H P) (k : ∀ v H1, Ex H H1 → P v H1 → tz D (σ.set i (some v)) H1) : tSeq (tAsg te (gName i)) tz D σ H := s_asgP (D := { D with nx := tz D }) h k
theorem s_retP (h : EvP te σ H P) (k : ∀ v H1, Ex H H1 → P v H1 → D.rt v H1) : tRet te D σ H := h H (Ex.refl H) _ k
/-- an argument known by a property, then the rest -/
theorem ev_fld {ta : TE} {a C dx : Addr} {fs : List (Str × V)} {f : Str} (h : Ev ta σ H (.ref a)) (ho : H a = some (.ins C dx fs)) (hc : Cls K C) (hn : NoAttr K C f) (hl : fs.lookup f = some v) : Ev (tFld K ta f) σ H v := fun H1 e Q q =>
  h H1 e _ fun H2 e2 => ⟨a, C, dx, fs, v, rfl, e2 a _ (e a _ ho), hc, hn, hl, q H2 e2⟩
theorem ev_ei1 {t1 t2 : TE} (h : Ev t1 σ H v) : Ev (tEi t1 t2) σ H v := fun H1 e Q q => .inl (h H1 e Q q)
theorem ev_ei2 {t1 t2 : TE} (h : Ev t2 σ H v) : Ev (tEi t1 t2) σ H v := fun H1 e Q q => .inr (h H1 e Q q)
theorem evp_ei1 {t1 t2 : TE} (h : EvP t1 σ H P) : EvP (tEi t1 t2) σ H P := fun H1 e Q q => .inl (h H1 e Q q)
theorem evp_ei2 {t1 t2 : TE} (h : EvP t2 σ H P) : EvP (tEi t1 t2) σ H P := fun H1 e Q q => .inr (h H1 e Q q)
end
/-! ### cells and what they come to -/
def cv (f : Str → Int) : V → Int
  | .int i => i
  | .str z => f z
  | _ => 0
def CellV (x : V) : Prop := (∃ i, x = .int i) ∨ ∃ z, x = .str z
/-- a condition: where it stands, its cells, when it holds -/
structure Cn where
  a : Addr
  cs : List V
  h : (Str → Int) → Bool
/-- the classes' addresses -/
structure Cl where
  C : Addr
  T : Addr
  S : Addr
  A : Addr
  O : Addr
  P : Addr
def fsT (b : Bool) : List (Str × V) := putF "said" (.bl b) []
def fsS (x y : V) : List (Str × V) := putF "other" y (putF "one" x [])
def fsV (t : Addr) : List (Str × V) := putF "parts" (.ref t) []
def fsP (a : Addr) : List (Str × V) := putF "part" (.ref a) []
def TruthAt (c : Cl) (H : Hp) (d : Cn) : Prop := ∃ dx b, H d.a = some (.ins c.T dx (fsT b)) ∧ d.cs = [] ∧ d.h = fun _ => b
def SameAt (c : Cl) (H : Hp) (d : Cn) : Prop := ∃ dx x y, H d.a = some (.ins c.S dx (fsS x y)) ∧ CellV x ∧ CellV y ∧ d.cs = [x, y] ∧ d.h = fun f => decide (cv f x = cv f y)
/-- one of several parts: the class, its word -/
def SevAt (C : Addr) (wd : List Bool → Bool) (R : Cn → Prop) (H : Hp) (d : Cn) : Prop := ∃ dx t, ∃ ps : List Cn, H d.a = some (.ins C dx (fsV t)) ∧ H t = some (.tup (ps.map fun p => V.ref p.a)) ∧
  (∀ p ∈ ps, R p) ∧ ps.length ≤ 50 ∧ d.cs = ps.flatMap (·.cs) ∧ d.cs.length ≤ 100 ∧ d.h = fun f => wd (ps.map fun p => p.h f)
def OppAt (c : Cl) (R : Cn → Prop) (H : Hp) (d : Cn) : Prop := ∃ dx, ∃ p : Cn, H d.a = some (.ins c.P dx (fsP p.a)) ∧ R p ∧ d.cs = p.cs ∧ d.h = fun f => !p.h f
def wAll (bs : List Bool) : Bool := bs.all id
def wAny (bs : List Bool) : Bool := bs.any id
/-- a condition not more than n deep -/
def CondN (c : Cl) (H : Hp) : Nat → Cn → Prop
  | 0, d => TruthAt c H d ∨ SameAt c H d
  | n + 1, d => TruthAt c H d ∨ SameAt c H d ∨ SevAt c.A wAll (CondN c H n) H d ∨ SevAt c.O wAny (CondN c H n) H d ∨ OppAt c (CondN c H n) H d
/-- the deep ones, by their depth -/
def AllN (c : Cl) : Nat → Hp → Cn → Prop
  | 0, _, _ => False
  | n + 1, H, d => SevAt c.A wAll (CondN c H n) H d
def OneN (c : Cl) : Nat → Hp → Cn → Prop
  | 0, _, _ => False
  | n + 1, H, d => SevAt c.O wAny (CondN c H n) H d
def OppN (c : Cl) : Nat → Hp → Cn → Prop
  | 0, _, _ => False
  | n + 1, H, d => OppAt c (CondN c H n) H d
theorem condN_cases {c : Cl} {H : Hp} {d : Cn} : ∀ {n : Nat}, CondN c H n d → TruthAt c H d ∨ SameAt c H d ∨ AllN c n H d ∨ OneN c n H d ∨ OppN c n H d
  | 0, h => h.elim .inl fun h => .inr (.inl h)
  | _ + 1, h => h
section
variable {c : Cl} {H H' : Hp} {d : Cn} {n m : Nat}
theorem TruthAt.ex (e : Ex H H') (h : TruthAt c H d) : TruthAt c H' d := let ⟨dx, b, h1, r⟩ := h; ⟨dx, b, e _ _ h1, r⟩
theorem SameAt.ex (e : Ex H H') (h : SameAt c H d) : SameAt c H' d := let ⟨dx, x, y, h1, r⟩ := h; ⟨dx, x, y, e _ _ h1, r⟩
theorem SevAt.ex {C : Addr} {wd : List Bool → Bool} {R R' : Cn → Prop} (e : Ex H H') (k : ∀ p, R p → R' p) (h : SevAt C wd R H d) : SevAt C wd R' H' d :=
  let ⟨dx, t, ps, h1, h2, h3, r⟩ := h; ⟨dx, t, ps, e _ _ h1, e _ _ h2, fun p hp => k p (h3 p hp), r⟩
theorem OppAt.ex {R R' : Cn → Prop} (e : Ex H H') (k : ∀ p, R p → R' p) (h : OppAt c R H d) : OppAt c R' H' d := let ⟨dx, p, h1, h2, r⟩ := h; ⟨dx, p, e _ _ h1, k p h2, r⟩
theorem CondN.ex (e : Ex H H') : ∀ {n : Nat} {d : Cn}, CondN c H n d → CondN c H' n d
  | 0, _, h => h.imp (TruthAt.ex e) (SameAt.ex e)
  | n + 1, _, h => h.imp (TruthAt.ex e) fun h => h.imp (SameAt.ex e) fun h => h.imp (SevAt.ex e fun _ q => CondN.ex e q) fun h => h.imp (SevAt.ex e fun _ q => CondN.ex e q) (OppAt.ex e fun _ q => CondN.ex e q)
theorem CondN.up : ∀ {n : Nat} {d : Cn}, CondN c H n d → CondN c H (n + 1) d
  | 0, _, h => h.elim .inl fun h => .inr (.inl h)
  | n + 1, _, h => h.imp id fun h => h.imp id fun h => h.imp (SevAt.ex (Ex.refl H) fun _ q => CondN.up q) fun h => h.imp (SevAt.ex (Ex.refl H) fun _ q => CondN.up q) (OppAt.ex (Ex.refl H) fun _ q => CondN.up q)
theorem CondN.le (h : CondN c H n d) (l : n ≤ m) : CondN c H m d := by
  induction l with
  | refl => exact h
  | step _ ih => exact ih.up
theorem CondN.cells : ∀ {n : Nat} {d : Cn}, CondN c H n d → (∀ x ∈ d.cs, CellV x) ∧ d.cs.length ≤ 100 := by
  intro n
  have leaf : ∀ {d : Cn}, TruthAt c H d ∨ SameAt c H d → (∀ x ∈ d.cs, CellV x) ∧ d.cs.length ≤ 100 := by
    rintro d (⟨_, _, _, e, _⟩ | ⟨_, x, y, _, hx, hy, e, _⟩)
    · rw [e]
      exact ⟨(fun x hx => by cases hx), Nat.zero_le _⟩
    · rw [e]
      refine ⟨fun z hz => ?_, by show 2 ≤ 100; decide⟩
      rcases List.mem_cons.mp hz with rfl | hz
      · exact hx
      · rw [List.mem_singleton.mp hz]
        exact hy
  induction n with
  | zero => exact fun {d} h => leaf h
  | succ n ih =>
    rintro d (h | h | h | h | h)
    · exact leaf (.inl h)
    · exact leaf (.inr h)
    · obtain ⟨_, _, ps, _, _, h3, _, e, l, _⟩ := h
      refine ⟨fun x hx => ?_, l⟩
      rw [e] at hx
      obtain ⟨p, hp, hx⟩ := List.mem_flatMap.mp hx
      exact (ih (h3 p hp)).1 x hx
    · obtain ⟨_, _, ps, _, _, h3, _, e, l, _⟩ := h
      refine ⟨fun x hx => ?_, l⟩
      rw [e] at hx
      obtain ⟨p, hp, hx⟩ := List.mem_flatMap.mp hx
      exact (ih (h3 p hp)).1 x hx
    · obtain ⟨_, p, _, h2, e, _⟩ := h
      rw [e]
      exact ih h2
/-- fillings alike at the cells: it holds at both or at neither -/
theorem CondN.same {f g : Str → Int} : ∀ {n : Nat} {d : Cn}, CondN c H n d → (∀ x ∈ d.cs, ∀ y ∈ d.cs, (cv f x = cv f y ↔ cv g x = cv g y)) → d.h f = d.h g := by
  intro n
  have leaf : ∀ {d : Cn}, TruthAt c H d ∨ SameAt c H d → (∀ x ∈ d.cs, ∀ y ∈ d.cs, (cv f x = cv f y ↔ cv g x = cv g y)) → d.h f = d.h g := by
    rintro d (⟨_, _, _, _, e⟩ | ⟨_, x, y, _, _, _, e, eh⟩) k
    · rw [e]
    · rw [eh]
      have q := k x (by rw [e]; exact List.mem_cons_self) y (by rw [e]; exact List.mem_cons_of_mem _ List.mem_cons_self)
      exact decide_eq_decide.mpr q
  induction n with
  | zero => exact fun {d} h k => leaf h k
  | succ n ih =>
    have many : ∀ {C : Addr} {wd : List Bool → Bool} {d : Cn}, SevAt C wd (CondN c H n) H d → (∀ x ∈ d.cs, ∀ y ∈ d.cs, (cv f x = cv f y ↔ cv g x = cv g y)) → d.h f = d.h g := by
      rintro C wd d ⟨_, _, ps, _, _, h3, _, e, _, eh⟩ k
      rw [eh]
      show wd (ps.map fun p => p.h f) = wd (ps.map fun p => p.h g)
      congr 1
      refine List.map_congr_left fun p hp => ih (h3 p hp) fun x hx y hy => k x ?_ y ?_
      · rw [e]; exact List.mem_flatMap.mpr ⟨p, hp, hx⟩
      · rw [e]; exact List.mem_flatMap.mpr ⟨p, hp, hy⟩
    rintro d (h | h | h | h | h) k
    · exact leaf (.inl h) k
    · exact leaf (.inr h) k
    · exact many h k
    · exact many h k
    · obtain ⟨_, p, _, h2, e, eh⟩ := h
      rw [eh]
      show (!p.h f) = !p.h g
      rw [ih h2 fun x hx y hy => k x (by rw [e]; exact hx) y (by rw [e]; exact hy)]
end
/-- the filling in memory at dd says f at the gaps among the cells -/
def FillAt (H : Hp) (dd : Addr) (f : Str → Int) (cs : List V) : Prop := ∃ kvs, H dd = some (.dK kvs) ∧ ∀ z, V.str z ∈ cs → valV kvs (Sum.inr z : Key) = some (.int (f z))
theorem FillAt.ex {H H' : Hp} {dd : Addr} {f : Str → Int} {cs : List V} (e : Ex H H') (h : FillAt H dd f cs) : FillAt H' dd f cs := let ⟨kvs, h1, r⟩ := h; ⟨kvs, e _ _ h1, r⟩
theorem FillAt.sub {H : Hp} {dd : Addr} {f : Str → Int} {cs cs' : List V} (h : FillAt H dd f cs) (s : ∀ x ∈ cs', x ∈ cs) : FillAt H dd f cs' := let ⟨kvs, h1, r⟩ := h; ⟨kvs, h1, fun z hz => r z (s _ hz)⟩
end K17
/-! The leaves: is_gap, come_to, the makers, Truth and Same. -/
namespace K17
open PySem PySem.Spec PyProof.Rows L2 Evl
/-- what the top has left, of names and classes -/
structure Txt (K : PySem.W.Frag) (mg : Str → Option Value) (c : Cl) : Prop where
  clT : Cls K c.T
  clS : Cls K c.S
  clA : Cls K c.A
  clO : Cls K c.O
  clP : Cls K c.P
  nSaid : NoAttr K c.T "said"
  nOne : NoAttr K c.S "one"
  nOther : NoAttr K c.S "other"
  nPartsA : NoAttr K c.A "parts"
  nPartsO : NoAttr K c.O "parts"
  nPart : NoAttr K c.P "part"
  fIsi : mg "isinstance" = none
  fStr : mg "str" = none
  fTuple : mg "tuple" = none
  fAll : mg "all" = none
  fAny : mg "any" = none
  fSorted : mg "sorted" = none
  fSet : mg "set" = none
  fLen : mg "len" = none
  fRange : mg "range" = none
  fEnum : mg "enumerate" = none
  fDict : mg "dict" = none
  fMax : mg "max" = none
  fList : mg "list" = none
  fBool : mg "bool" = none
/-- a def, a class's maker, a method, as callers use them -/
def Def (P : Program) (w : World) (K : PySem.W.Frag) (mg : Str → Option Value) (base : Heap) (k : Nat) (x : Str) (ps : List Str) (sp : Sp) : Prop :=
  ∃ f fd, FnOk P w K mg base CX0 k f fd ps sp ∧ mg x = some (.ref f) ∧ PySem.W.keepIn K (.ref f) = true ∧ Binds K fd ps []
def Maker (P : Program) (w : World) (K : PySem.W.Frag) (mg : Str → Option Value) (base : Heap) (k : Nat) (C : Addr) (x : Str) (ps : List Str) (sp : Sp) : Prop :=
  ∃ f fd, FnOk P w K mg base CX0 k f fd ps sp ∧ L2.Mk K C f ∧ mg x = some (.ref C) ∧ Binds K fd ps []
def Metd (P : Program) (w : World) (K : PySem.W.Frag) (mg : Str → Option Value) (base : Heap) (k : Nat) (C : Addr) (m : Str) (ps : List Str) (sp : Sp) : Prop :=
  ∃ f fd, FnOk P w K mg base CX0 k f fd ps sp ∧ Meth K C m f ∧ Binds K fd ps []
def isG : V → Bool
  | .str _ => true
  | _ => false
def spIsGap : Sp := fun vs H Q _ => ∃ x, vs = [x] ∧ CellV x ∧ RetV (.bl (isG x)) H Q
def spComeTo : Sp := fun vs H Q _ => ∃ x dd f, vs = [x, .ref dd] ∧ CellV x ∧ FillAt H dd f [x] ∧ RetV (.int (cv f x)) H Q
/-- an instance is made: it stands there with its attributes -/
def spMade (C : Addr) (n : Nat) (G : List V → Hp → Prop) (fs : List V → List (Str × V)) : Sp := fun vs H Q _ => ∃ p dx us, vs = .ref p :: us ∧ us.length = n ∧ H p = some (.ins C dx []) ∧ G us H ∧ Q .non (upd H p (.ins C dx (fs us)))
def spHolds (At : Hp → Cn → Prop) : Sp := fun vs H Q _ => ∃ (d : Cn) (dd : Addr) (f : Str → Int), vs = [.ref d.a, .ref dd] ∧ At H d ∧ FillAt H dd f d.cs ∧ RetV (.bl (d.h f)) H Q
def spCells (At : Hp → Cn → Prop) : Sp := fun vs H Q _ => ∃ d : Cn, vs = [.ref d.a] ∧ At H d ∧ RetL d.cs H Q
theorem lk1 (f : Str) (v : V) : (putF f v []).lookup f = some v := by rw [lookup_putF, if_pos rfl]
theorem lk0 {f g : Str} (v : V) (h : ¬ g = f) : (putF f v []).lookup g = none := by
  rw [lookup_putF, if_neg h]
  rfl
section
variable {P : Program} {w : World} {K : PySem.W.Frag} {mg : Str → Option Value} {base : Heap} {c : Cl} {f : Addr} {fd : FuncData}
theorem scIsGap : FnScope ["cell"] ["cell"] (defScope sIsGap) := ⟨rfl, rfl, rfl, by decide +kernel, rfl, by decide +kernel, by decide +kernel⟩
theorem ok_isGap (F : Fun K "is_gap" "is_gap" sIsGap f fd) (T : Txt K mg c) : FnOk P w K mg base CX0 1 f fd ["cell"] spIsGap := by
  refine F.ok scIsGap (fun vs H Q E h => ?_) (fun cdv A outer s H vs Q E hr h => ?_)
  · obtain ⟨x, rfl, _⟩ := h
    rfl
  · obtain ⟨x, rfl, hx, k⟩ := h
    refine ⟨_, pss_one (ps_ret (pe_callB call_isi (by rfl) T.fIsi (by decide +kernel) (pa_cons (pv 0) (pa_cons (pe_bltn (v := .ty "str") (u := .type "str") (by rfl) T.fStr (by decide +kernel) rfl) pa_nil)))), ?_⟩
    rcases hx with ⟨i, rfl⟩ | ⟨z, rfl⟩
    · exact ⟨_, rfl, _, _, _, _, _, rfl, .ty _, .base (.int i), kit_ty (r := false) (by decide +kernel), k _ (Ex.refl H)⟩
    · exact ⟨_, rfl, _, _, _, _, _, rfl, .ty _, .base (.str z), kit_ty (r := true) (by decide +kernel), k _ (Ex.refl H)⟩
theorem scComeTo : FnScope ["cell", "filling"] ["cell", "filling"] (defScope sComeTo) := ⟨rfl, rfl, rfl, by decide +kernel, rfl, by decide +kernel, by decide +kernel⟩
theorem ok_comeTo (F : Fun K "come_to" "come_to" sComeTo f fd) (G : Def P w K mg base 1 "is_gap" ["cell"] spIsGap) : FnOk P w K mg base CX0 2 f fd ["cell", "filling"] spComeTo := by
  obtain ⟨f1, fd1, G1, m1, k1, b1⟩ := G
  refine F.ok scComeTo (fun vs H Q E h => ?_) (fun cdv A outer s H vs Q E hr h => ?_)
  · obtain ⟨x, dd, f, rfl, _⟩ := h
    rfl
  · obtain ⟨x, dd, f, rfl, hx, hF, k⟩ := h
    have hu := hu_of hr
    refine ⟨_, pss_cons (ps_if (pt_val (pe_call G1 hr (by rfl) m1 k1 b1 .nil pass0 (pa_cons (pv 0) pa_nil))) (pss_one (ps_ret (pe_dget hu (pv 1) (pv 0) (fun _ _ => rfl)))) pss_nil)
      (pss_one (ps_ret (pv 0))), ?_⟩
    refine ⟨x, rfl, x, rfl, hx, fun H1 e1 => ?_⟩
    rcases hx with ⟨i, rfl⟩ | ⟨z, rfl⟩
    · exact ⟨_, rfl, iteF ⟨_, rfl, k H1 e1⟩⟩
    · obtain ⟨kvs, h1, h2⟩ := hF.ex e1
      refine ⟨_, rfl, iteT ⟨_, rfl, _, rfl, dd, .int (f z), rfl, ?_, k H1 e1⟩⟩
      rw [← h2 z List.mem_cons_self]
      exact DGet.k (k := Sum.inr z) h1
/-! makers -/
theorem scTInit : FnScope ["self", "said"] ["self", "said"] (defScope sTInit) := ⟨rfl, rfl, rfl, by decide +kernel, rfl, by decide +kernel, by decide +kernel⟩
theorem ok_TInit (F : Fun K "__init__" "Truth.__init__" sTInit f fd) (T : Txt K mg c) : FnOk P w K mg base CX0 1 f fd ["self", "said"] (spMade c.T 1 (fun _ _ => True) fun us => putF "said" (us.getD 0 .non) []) := by
  refine F.ok scTInit (fun vs H Q E h => ?_) (fun cdv A outer s H vs Q E hr h => ?_)
  · obtain ⟨p, dx, us, rfl, l, _⟩ := h
    rw [List.length_cons, l]
    rfl
  · obtain ⟨p, dx, us, rfl, l, hp, _, k⟩ := h
    obtain ⟨u, rfl⟩ : ∃ u, us = [u] := List.length_eq_one_iff.mp l
    exact ⟨_, pss_one (ps_fld (pv 0) (pv 1) rfl), _, rfl, _, rfl, p, c.T, dx, _, rfl, hp, T.clT, T.nSaid, (by decide), k⟩
theorem scSInit : FnScope ["self", "one", "other"] ["self", "one", "other"] (defScope sSInit) := ⟨rfl, rfl, rfl, by decide +kernel, rfl, by decide +kernel, by decide +kernel⟩
theorem ok_SInit (F : Fun K "__init__" "Same.__init__" sSInit f fd) (T : Txt K mg c) : FnOk P w K mg base CX0 1 f fd ["self", "one", "other"] (spMade c.S 2 (fun _ _ => True) fun us => fsS (us.getD 0 .non) (us.getD 1 .non)) := by
  refine F.ok scSInit (fun vs H Q E h => ?_) (fun cdv A outer s H vs Q E hr h => ?_)
  · obtain ⟨p, dx, us, rfl, l, _⟩ := h
    rw [List.length_cons, l]
    rfl
  · obtain ⟨p, dx, us, rfl, l, hp, _, k⟩ := h
    obtain ⟨u, v, rfl⟩ : ∃ u v, us = [u, v] := by
      match us, l with
      | [u, v], _ => exact ⟨u, v, rfl⟩
    refine ⟨_, pss_cons (ps_fld (pv 0) (pv 1) rfl) (pss_one (ps_fld (pv 0) (pv 2) rfl)), _, rfl, _, rfl, p, c.S, dx, _, rfl, hp, T.clS, T.nOne, (by decide), _, rfl, _, rfl, p, c.S, dx, _, rfl, upd_same, T.clS, T.nOther, (by show 1 < 1000; decide), ?_⟩
    show Q .non (upd (upd H p _) p _)
    rw [upd_upd]
    exact k
theorem scVInit : FnScope ["self", "parts"] ["self", "parts"] (defScope sVInit) := ⟨rfl, rfl, rfl, by decide +kernel, rfl, by decide +kernel, by decide +kernel⟩
/-- the parts are put into a tuple of its own -/
def spVMade (K : PySem.W.Frag) (C : Addr) : Sp := fun vs H Q _ => ∃ p dx l xs, vs = [.ref p, .ref l] ∧ H p = some (.ins C dx []) ∧ SqL K H l xs ∧ ∀ t, H t = none → Q .non (upd (upd H t (.tup xs)) p (.ins C dx (fsV t)))
theorem ok_VInit {C : Addr} (F : Fun K "__init__" "Several.__init__" sVInit f fd) (T : Txt K mg c) (hC : Cls K C) (hN : NoAttr K C "parts") : FnOk P w K mg base CX0 1 f fd ["self", "parts"] (spVMade K C) := by
  refine F.ok scVInit (fun vs H Q E h => ?_) (fun cdv A outer s H vs Q E hr h => ?_)
  · obtain ⟨p, dx, l, xs, rfl, _⟩ := h
    rfl
  · obtain ⟨p, dx, l, xs, rfl, hp, hl, k⟩ := h
    refine ⟨_, pss_one (ps_fld (pv 0) (pe_callTy call_tuple_of (by rfl) T.fTuple (by decide +kernel) (pa_cons (pv 1) pa_nil)) rfl), _, rfl, l, xs, rfl, .inl ⟨hl, fun t ht => ?_⟩⟩
    exact ⟨_, rfl, p, C, dx, _, rfl, (by rw [upd_ne (ne_of_none hp ht)]; exact hp), hC, hN, (by decide), k t ht⟩
theorem scPInit : FnScope ["self", "part"] ["self", "part"] (defScope sPInit) := ⟨rfl, rfl, rfl, by decide +kernel, rfl, by decide +kernel, by decide +kernel⟩
theorem ok_PInit (F : Fun K "__init__" "Opposite.__init__" sPInit f fd) (T : Txt K mg c) : FnOk P w K mg base CX0 1 f fd ["self", "part"] (spMade c.P 1 (fun _ _ => True) fun us => putF "part" (us.getD 0 .non) []) := by
  refine F.ok scPInit (fun vs H Q E h => ?_) (fun cdv A outer s H vs Q E hr h => ?_)
  · obtain ⟨p, dx, us, rfl, l, _⟩ := h
    rw [List.length_cons, l]
    rfl
  · obtain ⟨p, dx, us, rfl, l, hp, _, k⟩ := h
    obtain ⟨u, rfl⟩ : ∃ u, us = [u] := List.length_eq_one_iff.mp l
    exact ⟨_, pss_one (ps_fld (pv 0) (pv 1) rfl), _, rfl, _, rfl, p, c.P, dx, _, rfl, hp, T.clP, T.nPart, (by decide), k⟩
/-! Truth and Same -/
theorem scTHolds : FnScope ["self", "filling"] ["self", "filling"] (defScope sTHolds) := ⟨rfl, rfl, rfl, by decide +kernel, rfl, by decide +kernel, by decide +kernel⟩
theorem ok_THolds (F : Fun K "holds" "Truth.holds" sTHolds f fd) (T : Txt K mg c) : FnOk P w K mg base CX0 1 f fd ["self", "filling"] (spHolds (TruthAt c)) := by
  refine F.ok scTHolds (fun vs H Q E h => ?_) (fun cdv A outer s H vs Q E hr h => ?_)
  · obtain ⟨d, dd, f, rfl, _⟩ := h
    rfl
  · obtain ⟨d, dd, f, rfl, ⟨dx, b, h1, _, h3⟩, _, k⟩ := h
    refine ⟨_, pss_one (ps_ret (pe_fld (pv 0) rfl)), _, rfl, d.a, c.T, dx, _, .bl b, rfl, h1, T.clT, T.nSaid, lk1 _ _, ?_⟩
    rw [h3] at k
    exact k H (Ex.refl H)
theorem scSHolds : FnScope ["self", "filling"] ["self", "filling"] (defScope sSHolds) := ⟨rfl, rfl, rfl, by decide +kernel, rfl, by decide +kernel, by decide +kernel⟩
theorem fsS_one (x y : V) : (fsS x y).lookup ("one" : Str) = some x := by
  unfold fsS
  rw [lookup_putF, if_neg (by decide +kernel), lk1]
theorem fsS_other (x y : V) : (fsS x y).lookup ("other" : Str) = some y := by
  unfold fsS
  rw [lookup_putF, if_pos rfl]
theorem fsS_no (x y : V) {m : Str} (h1 : ¬ m = "one") (h2 : ¬ m = "other") : (fsS x y).lookup m = none := by
  unfold fsS
  rw [lookup_putF, if_neg h2, lk0 _ h1]
theorem scal_int (i j : Int) : scal (.int i) (.int j) = true := rfl
theorem int_eq (i j : Int) : decide (V.int i = V.int j) = decide (i = j) := by
  by_cases h : i = j
  · rw [h]
    simp
  · have : ¬ V.int i = V.int j := fun e => h (V.int.inj e)
    rw [decide_eq_false h, decide_eq_false this]
theorem ok_SHolds (F : Fun K "holds" "Same.holds" sSHolds f fd) (T : Txt K mg c) (G : Def P w K mg base 2 "come_to" ["cell", "filling"] spComeTo) : FnOk P w K mg base CX0 3 f fd ["self", "filling"] (spHolds (SameAt c)) := by
  obtain ⟨f1, fd1, G1, m1, k1, b1⟩ := G
  refine F.ok scSHolds (fun vs H Q E h => ?_) (fun cdv A outer s H vs Q E hr h => ?_)
  · obtain ⟨d, dd, f, rfl, _⟩ := h
    rfl
  · obtain ⟨d, dd, f, rfl, ⟨dx, x, y, h1, hx, hy, hc, hh⟩, hF, k⟩ := h
    refine ⟨_, pss_one (ps_ret (pe_cmpR op_eq (pe_call G1 hr (by rfl) m1 k1 b1 .nil pass0 (pa_cons (pe_fld (pv 0) rfl) (pa_cons (pv 1) pa_nil))) (pe_call G1 hr (by rfl) m1 k1 b1 .nil pass0 (pa_cons (pe_fld (pv 0) rfl) (pa_cons (pv 1) pa_nil))) (nomark _))), ?_⟩
    rw [hc] at hF
    refine ⟨_, rfl, d.a, c.S, dx, _, x, rfl, h1, T.clS, T.nOne, fsS_one x y, _, rfl, x, dd, f, rfl, hx, hF.sub (fun z hz => by rw [List.mem_singleton.mp hz]; exact List.mem_cons_self), fun H1 e1 => ?_⟩
    refine ⟨_, rfl, d.a, c.S, dx, _, y, rfl, e1 _ _ h1, T.clS, T.nOther, fsS_other x y, _, rfl, y, dd, f, rfl, hy, (hF.ex e1).sub (fun z hz => by rw [List.mem_singleton.mp hz]; exact List.mem_cons_of_mem _ List.mem_cons_self), fun H2 e2 => ?_⟩
    refine ⟨scal_int _ _, ?_⟩
    rw [int_eq]
    rw [hh] at k
    exact k H2 (e1.trans e2)
theorem scCCells : FnScope ["self"] ["self"] (defScope sCCells) := ⟨rfl, rfl, rfl, by decide +kernel, rfl, by decide +kernel, by decide +kernel⟩
theorem ok_CCells (F : Fun K "cells" "Cond.cells" sCCells f fd) : FnOk P w K mg base CX0 1 f fd ["self"] (spCells (TruthAt c)) := by
  refine F.ok scCCells (fun vs H Q E h => ?_) (fun cdv A outer s H vs Q E hr h => ?_)
  · obtain ⟨d, rfl, _⟩ := h
    rfl
  · obtain ⟨d, rfl, ⟨dx, b, _, h2, _⟩, k⟩ := h
    refine ⟨_, pss_one (ps_ret (pe_lst pa_nil)), Nat.zero_le _, fun l hl => ?_⟩
    rw [h2] at k
    exact k l _ hl (Ex.new hl) upd_same
theorem scSCells : FnScope ["self"] ["self"] (defScope sSCells) := ⟨rfl, rfl, rfl, by decide +kernel, rfl, by decide +kernel, by decide +kernel⟩
theorem ok_SCells (F : Fun K "cells" "Same.cells" sSCells f fd) (T : Txt K mg c) : FnOk P w K mg base CX0 1 f fd ["self"] (spCells (SameAt c)) := by
  refine F.ok scSCells (fun vs H Q E h => ?_) (fun cdv A outer s H vs Q E hr h => ?_)
  · obtain ⟨d, rfl, _⟩ := h
    rfl
  · obtain ⟨d, rfl, ⟨dx, x, y, h1, _, _, hc, _⟩, k⟩ := h
    refine ⟨_, pss_one (ps_ret (pe_lst (pa_cons (pe_fld (pv 0) rfl) (pa_cons (pe_fld (pv 0) rfl) pa_nil)))), ?_⟩
    refine ⟨_, rfl, d.a, c.S, dx, _, x, rfl, h1, T.clS, T.nOne, fsS_one x y, _, rfl, d.a, c.S, dx, _, y, rfl, h1, T.clS, T.nOther, fsS_other x y, (by show 2 ≤ sizeLine; decide), fun l hl => ?_⟩
    rw [hc] at k
    exact k l _ hl (Ex.new hl) upd_same
end
end K17
/-! A method of a condition of whatever sort; the deep ones by their depth; gaps, truth. -/
namespace K17
open PySem PySem.Spec PyProof.Rows L2 Evl
/-- a method of each of the five classes -/
structure Five (P : Program) (w : World) (K : PySem.W.Frag) (mg : Str → Option Value) (base : Heap) (k : Nat) (c : Cl) (m : Str) (ps : List Str) (s1 s2 s3 s4 s5 : Sp) : Prop where
  t : Metd P w K mg base k c.T m ps s1
  s : Metd P w K mg base k c.S m ps s2
  a : Metd P w K mg base k c.A m ps s3
  o : Metd P w K mg base k c.O m ps s4
  p : Metd P w K mg base k c.P m ps s5
def tD (c : Cl) (m : Str) (s1 s2 s3 s4 s5 : Sp) (to : TE) (t : TA) : TE :=
  tEi (tMeth c.T m s1 [] E0 to t) (tEi (tMeth c.S m s2 [] E0 to t) (tEi (tMeth c.A m s3 [] E0 to t) (tEi (tMeth c.O m s4 [] E0 to t) (tMeth c.P m s5 [] E0 to t))))
section
variable {X : Cx} {c : Cl} {k : Nat} {m : Str} {ps : List Str} {s1 s2 s3 s4 s5 : Sp} {o e : Expr} {es : List Expr} {to : TE} {t : TA} {apos pos : Pos}
theorem pe_d {pl : Sem Bool} (G : Five X.prog X.w X.K X.mg X.base k c m ps s1 s2 s3 s4 s5) (T : Txt X.K X.mg c) (hr : Room k X.A) (ho : PE X o to) (ha : PA X (e :: es) t)
    (hst : starEach (e :: es) X.env = (false, eval e X.env) :: starEach es X.env := by rfl) (hpl : (backTo pos (starEach es X.env)).any (·.1) = false := by rfl)
    (ht : eval (.Call (.Attribute o m apos) (e :: es) [] pos) X.env = (do
      let ov ← eval o X.env
      standAt apos.atName
      let (f, first) ← holding [ov] (getMethod ov m pl)
      callWith pos f first (backTo pos (starEach (e :: es) X.env)) (backToKw pos (keywordEach [] X.env))) := by rfl) :
    PE X (.Call (.Attribute o m apos) (e :: es) [] pos) (tD c m s1 s2 s3 s4 s5 to t) := by
  obtain ⟨⟨f1, d1, g1, m1, b1⟩, ⟨f2, d2, g2, m2, b2⟩, ⟨f3, d3, g3, m3, b3⟩, ⟨f4, d4, g4, m4, b4⟩, ⟨f5, d5, g5, m5, b5⟩⟩ := G
  exact pe_ei (pe_meth ho T.clT m1 g1 hr b1 .nil pass0 ha hst hpl ht) (pe_ei (pe_meth ho T.clS m2 g2 hr b2 .nil pass0 ha hst hpl ht) (pe_ei (pe_meth ho T.clA m3 g3 hr b3 .nil pass0 ha hst hpl ht)
    (pe_ei (pe_meth ho T.clO m4 g4 hr b4 .nil pass0 ha hst hpl ht) (pe_meth ho T.clP m5 g5 hr b5 .nil pass0 ha hst hpl ht))))
theorem pe_d0 {pl : Sem Bool} (G : Five X.prog X.w X.K X.mg X.base k c m ps s1 s2 s3 s4 s5) (T : Txt X.K X.mg c) (hr : Room k X.A) (ho : PE X o to)
    (ht : eval (.Call (.Attribute o m apos) [] [] pos) X.env = (do
      let ov ← eval o X.env
      standAt apos.atName
      let (f, first) ← holding [ov] (getMethod ov m pl)
      callWith pos f first (backTo pos (starEach [] X.env)) (backToKw pos (keywordEach [] X.env))) := by rfl) :
    PE X (.Call (.Attribute o m apos) [] [] pos) (tD c m s1 s2 s3 s4 s5 to tNil) := by
  obtain ⟨⟨f1, d1, g1, m1, b1⟩, ⟨f2, d2, g2, m2, b2⟩, ⟨f3, d3, g3, m3, b3⟩, ⟨f4, d4, g4, m4, b4⟩, ⟨f5, d5, g5, m5, b5⟩⟩ := G
  exact pe_ei (pe_meth0 ho T.clT m1 g1 hr b1 .nil pass0 ht) (pe_ei (pe_meth0 ho T.clS m2 g2 hr b2 .nil pass0 ht) (pe_ei (pe_meth0 ho T.clA m3 g3 hr b3 .nil pass0 ht)
    (pe_ei (pe_meth0 ho T.clO m4 g4 hr b4 .nil pass0 ht) (pe_meth0 ho T.clP m5 g5 hr b5 .nil pass0 ht))))
end
section
variable {c : Cl} {m : Str} {σ : L2.St} {H : Hp} {d : Cn} {n : Nat} {to : TE} {t : TA} {vs : List V} {Pp : V → Hp → Prop} {s1 s2 s3 s4 s5 : Sp}
theorem evp_meth {C a dx : Addr} {fs : List (Str × V)} {sp : Sp} {E : XK} (h : Ev to σ H (.ref a)) (ha : H a = some (.ins C dx fs)) (hl : fs.lookup m = none) (ht : EvA t σ H vs)
    (hs : ∀ H1, Ex H H1 → ∀ Q, RetP Pp H1 Q → ∀ E, sp (.ref a :: (vs ++ [])) H1 Q E) : EvP (tMeth C m sp [] E to t) σ H Pp := fun H1 e Q q =>
  h H1 e _ fun H2 e2 => ⟨a, dx, fs, rfl, (e.trans e2) a _ ha, hl, ht H2 (e.trans e2) _ fun H3 e3 => hs H3 ((e.trans e2).trans e3) Q (fun v H4 e4 p => q v H4 ((e2.trans e3).trans e4) p) E⟩
/-- no attribute has the method's name -/
def NoField (m : Str) : Prop := ¬ m = "said" ∧ ¬ m = "one" ∧ ¬ m = "other" ∧ ¬ m = "parts" ∧ ¬ m = "part"
/-- a condition's method of whatever sort -/
theorem evp_d (nf : NoField m) (h : Ev to σ H (.ref d.a)) (hd : CondN c H n d) (ht : EvA t σ H vs)
    (k1 : TruthAt c H d → ∀ H1, Ex H H1 → ∀ Q, RetP Pp H1 Q → ∀ E, s1 (.ref d.a :: (vs ++ [])) H1 Q E) (k2 : SameAt c H d → ∀ H1, Ex H H1 → ∀ Q, RetP Pp H1 Q → ∀ E, s2 (.ref d.a :: (vs ++ [])) H1 Q E)
    (k3 : AllN c n H d → ∀ H1, Ex H H1 → ∀ Q, RetP Pp H1 Q → ∀ E, s3 (.ref d.a :: (vs ++ [])) H1 Q E) (k4 : OneN c n H d → ∀ H1, Ex H H1 → ∀ Q, RetP Pp H1 Q → ∀ E, s4 (.ref d.a :: (vs ++ [])) H1 Q E)
    (k5 : OppN c n H d → ∀ H1, Ex H H1 → ∀ Q, RetP Pp H1 Q → ∀ E, s5 (.ref d.a :: (vs ++ [])) H1 Q E) : EvP (tD c m s1 s2 s3 s4 s5 to t) σ H Pp := by
  obtain ⟨n1, n2, n3, n4, n5⟩ := nf
  rcases condN_cases hd with q | q | q | q | q
  · obtain ⟨dx, b, h1, _⟩ := id q
    exact evp_ei1 (evp_meth h h1 (lk0 _ n1) ht (k1 q))
  · obtain ⟨dx, x, y, h1, _⟩ := id q
    exact evp_ei2 (evp_ei1 (evp_meth h h1 (fsS_no x y n2 n3) ht (k2 q)))
  · match n, q with
    | _ + 1, q =>
      obtain ⟨dx, u, ps, h1, _⟩ := id q
      exact evp_ei2 (evp_ei2 (evp_ei1 (evp_meth h h1 (lk0 _ n4) ht (k3 q))))
  · match n, q with
    | _ + 1, q =>
      obtain ⟨dx, u, ps, h1, _⟩ := id q
      exact evp_ei2 (evp_ei2 (evp_ei2 (evp_ei1 (evp_meth h h1 (lk0 _ n4) ht (k4 q)))))
  · match n, q with
    | _ + 1, q =>
      obtain ⟨dx, p, h1, _⟩ := id q
      exact evp_ei2 (evp_ei2 (evp_ei2 (evp_ei2 (evp_meth h h1 (lk0 _ n5) ht (k5 q)))))
theorem AllN.ex {H' : Hp} (e : Ex H H') : ∀ {n : Nat}, AllN c n H d → AllN c n H' d
  | _ + 1, h => SevAt.ex e (fun _ q => CondN.ex e q) h
theorem OneN.ex {H' : Hp} (e : Ex H H') : ∀ {n : Nat}, OneN c n H d → OneN c n H' d
  | _ + 1, h => SevAt.ex e (fun _ q => CondN.ex e q) h
theorem OppN.ex {H' : Hp} (e : Ex H H') : ∀ {n : Nat}, OppN c n H d → OppN c n H' d
  | _ + 1, h => OppAt.ex e (fun _ q => CondN.ex e q) h
/-- holds of whatever sort -/
theorem ev_holds {dd : Addr} {f : Str → Int} (h : Ev to σ H (.ref d.a)) (ht : EvA t σ H [.ref dd]) (hd : CondN c H n d) (hF : FillAt H dd f d.cs) :
    Ev (tD c "holds" (spHolds (TruthAt c)) (spHolds (SameAt c)) (spHolds (AllN c n)) (spHolds (OneN c n)) (spHolds (OppN c n)) to t) σ H (.bl (d.h f)) := by
  have q := evp_d (c := c) (Pp := fun v _ => v = .bl (d.h f)) (s1 := spHolds (TruthAt c)) (s2 := spHolds (SameAt c)) (s3 := spHolds (AllN c n)) (s4 := spHolds (OneN c n)) (s5 := spHolds (OppN c n))
    (m := "holds") ⟨by decide +kernel, by decide +kernel, by decide +kernel, by decide +kernel, by decide +kernel⟩ h hd ht
    (fun q H1 e Q r E => ⟨d, dd, f, rfl, q.ex e, hF.ex e, fun H2 e2 => r _ H2 e2 rfl⟩) (fun q H1 e Q r E => ⟨d, dd, f, rfl, q.ex e, hF.ex e, fun H2 e2 => r _ H2 e2 rfl⟩)
    (fun q H1 e Q r E => ⟨d, dd, f, rfl, q.ex e, hF.ex e, fun H2 e2 => r _ H2 e2 rfl⟩) (fun q H1 e Q r E => ⟨d, dd, f, rfl, q.ex e, hF.ex e, fun H2 e2 => r _ H2 e2 rfl⟩)
    (fun q H1 e Q r E => ⟨d, dd, f, rfl, q.ex e, hF.ex e, fun H2 e2 => r _ H2 e2 rfl⟩)
  exact fun H1 e Q k => q H1 e Q fun v H2 e2 ev => by
    rw [ev]
    exact k H2 e2
/-- cells of whatever sort -/
theorem el_cells (h : Ev to σ H (.ref d.a)) (hd : CondN c H n d) :
    EvL (tD c "cells" (spCells (TruthAt c)) (spCells (SameAt c)) (spCells (AllN c n)) (spCells (OneN c n)) (spCells (OppN c n)) to tNil) σ H d.cs := by
  intro H1 e1 Q k
  have q := evp_d (c := c) (H := H1) (Pp := fun v H2 => ∃ p, v = .ref p ∧ H1 p = none ∧ H2 p = some (.lst d.cs)) (s1 := spCells (TruthAt c)) (s2 := spCells (SameAt c)) (s3 := spCells (AllN c n)) (s4 := spCells (OneN c n)) (s5 := spCells (OppN c n))
    (m := "cells") ⟨by decide +kernel, by decide +kernel, by decide +kernel, by decide +kernel, by decide +kernel⟩ (h.mono e1) (hd.ex e1) (ea_nil (σ := σ))
    (fun q H2 e Q r E => ⟨d, rfl, q.ex e, fun p H3 hp e3 h3 => r _ H3 e3 ⟨p, rfl, fresh_back e hp, h3⟩⟩) (fun q H2 e Q r E => ⟨d, rfl, q.ex e, fun p H3 hp e3 h3 => r _ H3 e3 ⟨p, rfl, fresh_back e hp, h3⟩⟩)
    (fun q H2 e Q r E => ⟨d, rfl, q.ex e, fun p H3 hp e3 h3 => r _ H3 e3 ⟨p, rfl, fresh_back e hp, h3⟩⟩) (fun q H2 e Q r E => ⟨d, rfl, q.ex e, fun p H3 hp e3 h3 => r _ H3 e3 ⟨p, rfl, fresh_back e hp, h3⟩⟩)
    (fun q H2 e Q r E => ⟨d, rfl, q.ex e, fun p H3 hp e3 h3 => r _ H3 e3 ⟨p, rfl, fresh_back e hp, h3⟩⟩)
  refine q H1 (Ex.refl H1) Q fun v H2 e2 ⟨p, ev, hp, h2⟩ => ?_
  rw [ev]
  exact k p H2 hp e2 h2
end
/-! ### a comprehension over a tuple -/
section
variable {K : PySem.W.Frag} {σ : L2.St} {H : Hp} {te : TE} {t : TT}
theorem el_lcT {a : Addr} {xs : List V} {tl : TE} {j : Nat} {vs : List Nat} (f : Nat → Bool) (v : Nat → V) (h : Ev tl σ H (.ref a)) (hx : SqT K H a xs) (hz : xs.length ≤ 40000) (hw : ∀ x, wipe ((wipe σ vs).set j (some x)) vs = wipe σ vs)
    (ht : ∀ (i : Nat) (x : V) H1, Ex H H1 → xs[i]? = some x → EvT t ((wipe σ vs).set j (some x)) H1 (f i)) (he : ∀ (i : Nat) (x : V) H1, Ex H H1 → xs[i]? = some x → f i = true → Ev te ((wipe σ vs).set j (some x)) H1 (v i)) :
    EvL (tLc (iTup K tl) (gName j) t te vs) σ H (given xs.length f v) := by
  intro H0 e Q q
  refine h H0 e _ fun H1 e1 => ⟨a, rfl, ⟨xs, ex_t (e.trans e1) hx⟩, fun Dl hD => ?_⟩
  refine lc_tup (xs := xs) (Cw H1 f v Dl) ⟨hD, Ex.new hD, upd_same⟩ (fun i H' _ p => ex_t ((e.trans e1).trans p.2.1) hx) (fun i x H' hi p => ⟨hw x, ?_⟩) fun H' p => q Dl H' (fresh_back e1 p.1) (e1.trans p.2.1) p.2.2
  have := (List.getElem?_eq_some_iff.mp hi).1
  exact cw_turn p (by omega) (ht i x H1 (e.trans e1) hi) fun hf => he i x H1 (e.trans e1) hi hf
theorem et_yes : EvT tYes σ H true := fun H1 _ _ q => q H1 (Ex.refl H1)
/-- every turn gives -/
theorem given_map {α : Type} (ys : List α) (u : α → V) (v : Nat → V) (h : ∀ i y, ys[i]? = some y → v i = u y) : given ys.length (fun _ => true) v = ys.map u := by
  unfold given
  rw [List.filter_eq_self.mpr fun _ _ => rfl]
  apply List.ext_getElem
  · simp
  · intro i h1 h2
    simp only [List.getElem_map, List.getElem_range]
    have hi : i < ys.length := by simpa using h2
    exact h i ys[i] (List.getElem?_eq_getElem hi)
/-- those of which the test is true -/
theorem given_filter {α : Type} (u : α → V) (b : α → Bool) (f : Nat → Bool) (v : Nat → V) (ys : List α) (hf : ∀ i y, ys[i]? = some y → f i = b y) (hv : ∀ i y, ys[i]? = some y → v i = u y) : given ys.length f v = (ys.filter b).map u := by
  have main : ∀ n, n ≤ ys.length → given n f v = ((ys.take n).filter b).map u := by
    intro n
    induction n with
    | zero => intro _; rfl
    | succ n ih =>
      intro hn
      have hy : ys[n]? = some ys[n] := List.getElem?_eq_getElem hn
      rw [List.take_add_one, hy, Option.toList_some, List.filter_append, List.map_append, ← ih (Nat.le_of_succ_le hn)]
      cases hb : b ys[n] with
      | true =>
        rw [given_yes ((hf n _ hy).trans hb), List.filter_cons, if_pos hb, hv n _ hy]
        rfl
      | false =>
        rw [given_no ((hf n _ hy).trans hb), List.filter_cons, if_neg (by rw [hb]; decide)]
        exact (List.append_nil _).symm
  have q := main ys.length (Nat.le_refl _)
  rw [List.take_length] at q
  exact q
end
end K17
/-! The deep conditions, by their depth. -/
namespace K17
open PySem PySem.Spec PyProof.Rows L2 Evl
section
variable {P : Program} {w : World} {K : PySem.W.Frag} {mg : Str → Option Value} {base : Heap} {c : Cl} {f : Addr} {fd : FuncData}
abbrev HoldsOk (P : Program) (w : World) (K : PySem.W.Frag) (mg : Str → Option Value) (base : Heap) (c : Cl) (k n : Nat) : Prop :=
  Five P w K mg base k c "holds" ["self", "filling"] (spHolds (TruthAt c)) (spHolds (SameAt c)) (spHolds (AllN c n)) (spHolds (OneN c n)) (spHolds (OppN c n))
abbrev CellsOk (P : Program) (w : World) (K : PySem.W.Frag) (mg : Str → Option Value) (base : Heap) (c : Cl) (k n : Nat) : Prop :=
  Five P w K mg base k c "cells" ["self"] (spCells (TruthAt c)) (spCells (SameAt c)) (spCells (AllN c n)) (spCells (OneN c n)) (spCells (OppN c n))
theorem scAHolds : FnScope ["self", "filling", "part"] ["self", "filling"] (defScope sAHolds) := ⟨rfl, rfl, rfl, by decide +kernel, rfl, by decide +kernel, by decide +kernel⟩
theorem scOHolds : FnScope ["self", "filling", "part"] ["self", "filling"] (defScope sOHolds) := ⟨rfl, rfl, rfl, by decide +kernel, rfl, by decide +kernel, by decide +kernel⟩
/-- [part.holds(filling) for part in self.parts] -/
theorem el_parts {n : Nat} {d p0 : Cn} {dd : Addr} {fl : Str → Int} {H : Hp} {C dx t : Addr} {ps : List Cn} (hC : Cls K C) (hN : NoAttr K C "parts") (h1 : H d.a = some (.ins C dx (fsV t))) (h2 : H t = some (.tup (ps.map fun p => V.ref p.a)))
    (h3 : ∀ p ∈ ps, CondN c H n p) (h4 : ps.length ≤ 50) (hF : FillAt H dd fl (ps.flatMap (·.cs))) :
    EvL (tLc (iTup K (tFld K (tVar 0) "parts")) (gName 2) tYes (tD c "holds" (spHolds (TruthAt c)) (spHolds (SameAt c)) (spHolds (AllN c n)) (spHolds (OneN c n)) (spHolds (OppN c n)) (tVar 2) (tCons (tVar 1) tNil)) [2])
      [some (.ref d.a), some (.ref dd), none] H ((ps.map fun p => p.h fl).map V.bl) := by
  have q := el_lcT (K := K) (σ := [some (.ref d.a), some (.ref dd), none]) (H := H) (t := tYes) (te := tD c "holds" (spHolds (TruthAt c)) (spHolds (SameAt c)) (spHolds (AllN c n)) (spHolds (OneN c n)) (spHolds (OppN c n)) (tVar 2) (tCons (tVar 1) tNil)) (j := 2) (vs := [2])
    (tl := tFld K (tVar 0) "parts") (fun _ => true) (fun i => match ps[i]? with | some p => V.bl (p.h fl) | none => .non) (ev_fld (ev_var (i := 0) rfl) h1 hC hN (lk1 _ _)) (Or.inl (Or.inl h2)) (by rw [List.length_map]; omega) (fun x => rfl) (fun _ _ _ _ _ => et_yes) fun i x H1 e1 hi _ => ?_
  · rw [List.length_map, given_map ps (fun p => V.bl (p.h fl)) _ (fun i p hp => by rw [hp])] at q
    rw [List.map_map]
    exact q
  · rw [List.getElem?_map] at hi
    cases hp : ps[i]? with
    | none => rw [hp] at hi; cases hi
    | some p =>
      rw [hp] at hi
      have ex := Option.some.inj hi
      subst ex
      have hm := List.mem_of_getElem? hp
      exact ev_holds (ev_var rfl) (ea_cons (ev_var rfl) ea_nil) ((h3 p hm).ex e1) ((hF.ex e1).sub fun z hz => List.mem_flatMap.mpr ⟨p, hm, hz⟩)
theorem ok_AHolds {k n : Nat} (F : Fun K "holds" "AllOf.holds" sAHolds f fd) (T : Txt K mg c) (G : HoldsOk P w K mg base c k n) : FnOk P w K mg base CX0 (k + 1) f fd ["self", "filling"] (spHolds (AllN c (n + 1))) := by
  refine F.ok scAHolds (fun vs H Q E h => ?_) (fun cdv A outer s H vs Q E hr h => ?_)
  · obtain ⟨d, dd, f, rfl, _⟩ := h
    rfl
  · obtain ⟨d, dd, fl, rfl, ⟨dx, t, ps, h1, h2, h3, h4, h5, h6, h7⟩, hF, kq⟩ := h
    refine ⟨_, pss_one (ps_ret (pe_callB (cr_all rfl) (by rfl) T.fAll (by decide +kernel) (pa_cons (pe_lc (own := [("part", 2)]) (g := gName 2) (tt := tYes) rfl scAHolds.nd (pi_tup (pe_fld (pv 0) rfl)) (blkOk_by (own := [("part", 2)]) (N := ["self", "filling", "part"]) (sc := defScope sAHolds) (by decide +kernel))
      (fun _ _ _ _ _ => pg_name (i := 2) scAHolds.nd rfl (Or.inl rfl)) (fun _ _ _ _ _ => pts_nil) (fun _ _ _ _ _ => pe_d G T hr (pv 2) (pa_cons (pv 1) pa_nil))) pa_nil))), ?_⟩
    rw [h5] at hF
    rw [h7] at kq
    have kk : ∀ H1, Ex H H1 → Q (.bl ((ps.map fun u => u.h fl).all id)) H1 := fun H1 e1 => kq H1 e1
    exact el_parts (p0 := d) T.clA T.nPartsA h1 h2 h3 h4 hF H (Ex.refl H) (fun x H1 => rAll K [x] H1 Q) fun p H1 _ e1 hp => ⟨p, ps.map fun u => u.h fl, rfl, SqL.of hp, kk H1 e1⟩
theorem ok_OHolds {k n : Nat} (F : Fun K "holds" "OneOf.holds" sOHolds f fd) (T : Txt K mg c) (G : HoldsOk P w K mg base c k n) : FnOk P w K mg base CX0 (k + 1) f fd ["self", "filling"] (spHolds (OneN c (n + 1))) := by
  refine F.ok scOHolds (fun vs H Q E h => ?_) (fun cdv A outer s H vs Q E hr h => ?_)
  · obtain ⟨d, dd, f, rfl, _⟩ := h
    rfl
  · obtain ⟨d, dd, fl, rfl, ⟨dx, t, ps, h1, h2, h3, h4, h5, h6, h7⟩, hF, kq⟩ := h
    refine ⟨_, pss_one (ps_ret (pe_callB (cr_any rfl) (by rfl) T.fAny (by decide +kernel) (pa_cons (pe_lc (own := [("part", 2)]) (g := gName 2) (tt := tYes) rfl scOHolds.nd (pi_tup (pe_fld (pv 0) rfl)) (blkOk_by (own := [("part", 2)]) (N := ["self", "filling", "part"]) (sc := defScope sOHolds) (by decide +kernel))
      (fun _ _ _ _ _ => pg_name (i := 2) scOHolds.nd rfl (Or.inl rfl)) (fun _ _ _ _ _ => pts_nil) (fun _ _ _ _ _ => pe_d G T hr (pv 2) (pa_cons (pv 1) pa_nil))) pa_nil))), ?_⟩
    rw [h5] at hF
    rw [h7] at kq
    have kk : ∀ H1, Ex H H1 → Q (.bl ((ps.map fun u => u.h fl).any id)) H1 := fun H1 e1 => kq H1 e1
    exact el_parts (p0 := d) T.clO T.nPartsO h1 h2 h3 h4 hF H (Ex.refl H) (fun x H1 => rAny K [x] H1 Q) fun p H1 _ e1 hp => ⟨p, ps.map fun u => u.h fl, rfl, SqL.of hp, kk H1 e1⟩
theorem scPHolds : FnScope ["self", "filling"] ["self", "filling"] (defScope sPHolds) := ⟨rfl, rfl, rfl, by decide +kernel, rfl, by decide +kernel, by decide +kernel⟩
theorem ok_PHolds {k n : Nat} (F : Fun K "holds" "Opposite.holds" sPHolds f fd) (T : Txt K mg c) (G : HoldsOk P w K mg base c k n) : FnOk P w K mg base CX0 (k + 1) f fd ["self", "filling"] (spHolds (OppN c (n + 1))) := by
  refine F.ok scPHolds (fun vs H Q E h => ?_) (fun cdv A outer s H vs Q E hr h => ?_)
  · obtain ⟨d, dd, f, rfl, _⟩ := h
    rfl
  · obtain ⟨d, dd, fl, rfl, ⟨dx, p, h1, h2, h3, h4⟩, hF, kq⟩ := h
    refine ⟨_, pss_one (ps_ret (pe_not (pe_d G T hr (pe_fld (pv 0) rfl) (pa_cons (pv 1) pa_nil)))), ?_⟩
    rw [h3] at hF
    rw [h4] at kq
    exact ev_holds (ev_fld (ev_var rfl) h1 T.clP T.nPart (lk1 _ _)) (ea_cons (ev_var rfl) ea_nil) h2 hF H (Ex.refl H) _ fun H1 e1 => ⟨_, rfl, kq H1 e1⟩
theorem scVCells : FnScope ["self", "found", "part"] ["self"] (defScope sVCells) := ⟨rfl, rfl, rfl, by decide +kernel, rfl, by decide +kernel, by decide +kernel⟩
theorem ok_VCells {k n : Nat} {C : Addr} {wd : List Bool → Bool} (F : Fun K "cells" "Several.cells" sVCells f fd) (T : Txt K mg c) (hC : Cls K C) (hN : NoAttr K C "parts") (G : CellsOk P w K mg base c k n) :
    FnOk P w K mg base CX0 (k + 1) f fd ["self"] (spCells (fun H d => SevAt C wd (CondN c H n) H d)) := by
  refine F.ok scVCells (fun vs H Q E h => ?_) (fun cdv A outer s H vs Q E hr h => ?_)
  · obtain ⟨d, rfl, _⟩ := h
    rfl
  · obtain ⟨d, rfl, ⟨dx, t, ps, h1, h2, h3, h4, h5, h6, h7⟩, kq⟩ := h
    refine ⟨_, pss_cons (ps_set (i := 1) scVCells.nd rfl (Or.inl rfl) (pe_lst pa_nil)) (pss_cons (ps_for PassesOwn.never rfl (pi_tup (pe_fld (pv 0) rfl)) (pg_name (i := 2) scVCells.nd rfl (Or.inl rfl))
      (pss_one (ps_expr (pe_bm PySem.F.plainAttrs_list PySem.F.slot_list_extend PySem.F.type_list_extend mt_extend (pv 1) (pa_cons (pe_d0 G T hr (pv 2)) pa_nil))))) (pss_one (ps_ret (pv 1)))), ?_⟩
    refine ⟨Nat.zero_le _, fun l hl => ?_⟩
    have e0 : Ex H (upd H l (.lst [])) := Ex.new hl
    have cut : ∀ i, ((ps.take i).flatMap (·.cs)).length ≤ 100 := fun i => by
      rw [h5] at h6
      refine Nat.le_trans ?_ h6
      conv => rhs; rw [← List.take_append_drop i ps, List.flatMap_append, List.length_append]
      exact Nat.le_add_right _ _
    refine q_forT (K := K) (xs := ps.map fun p => V.ref p.a) (a := t) (ev_fld (K := K) (ev_var rfl) (e0 _ _ h1) hC hN (lk1 _ _)) (st_of (e0 _ _ h2)) (fun i σ H' => ∃ v : Option V, σ = [some (.ref d.a), some (.ref l), v] ∧ Ex H H' ∧ H' l = some (.lst ((ps.take i).flatMap (·.cs))))
      (fun H1 e1 => ⟨none, rfl, e0.trans e1, e1 _ _ upd_same⟩) (fun i σ H' _ ⟨_, _, e, _⟩ => st_of (e _ _ h2)) ?_ ?_
    · rintro i x σ H' hi ⟨v, rfl, e, hL⟩
      rw [List.getElem?_map] at hi
      cases hp : ps[i]? with
      | none => rw [hp] at hi; cases hi
      | some p =>
        rw [hp] at hi
        have ex := Option.some.inj hi
        subst ex
        have hm := List.mem_of_getElem? hp
        have nx : (ps.take (i + 1)).flatMap (·.cs) = (ps.take i).flatMap (·.cs) ++ p.cs := by
          rw [List.take_add_one, hp, Option.toList_some, List.flatMap_append, List.flatMap_singleton]
        refine ⟨_, rfl, .inl ⟨rfl, _, SqL.of hL⟩, ?_⟩
        refine el_cells (ev_var rfl) ((h3 p hm).ex e) H' (Ex.refl H') _ fun b H2 hb e2 h2' => ?_
        refine ⟨l, b, _, p.cs, rfl, rfl, e2 _ _ hL, h2', ?_, ?_⟩
        · have := cut (i + 1)
          rw [nx, List.length_append] at this
          exact Nat.le_of_lt (small1000 (by omega))
        · refine ⟨some (.ref p.a), rfl, (e.trans e2).mut hl, ?_⟩
          rw [upd_same, nx]
    · rintro σ H' ⟨v, rfl, e, hL⟩
      rw [List.length_map, List.take_length, ← h5] at hL
      exact ⟨_, rfl, kq l H' hl e hL⟩
theorem scPCells : FnScope ["self"] ["self"] (defScope sPCells) := ⟨rfl, rfl, rfl, by decide +kernel, rfl, by decide +kernel, by decide +kernel⟩
theorem ok_PCells {k n : Nat} (F : Fun K "cells" "Opposite.cells" sPCells f fd) (T : Txt K mg c) (G : CellsOk P w K mg base c k n) : FnOk P w K mg base CX0 (k + 1) f fd ["self"] (spCells (OppN c (n + 1))) := by
  refine F.ok scPCells (fun vs H Q E h => ?_) (fun cdv A outer s H vs Q E hr h => ?_)
  · obtain ⟨d, rfl, _⟩ := h
    rfl
  · obtain ⟨d, rfl, ⟨dx, p, h1, h2, h3, h4⟩, kq⟩ := h
    refine ⟨_, pss_one (ps_ret (pe_d0 G T hr (pe_fld (pv 0) rfl))), ?_⟩
    rw [h3] at kq
    exact el_cells (ev_fld (ev_var rfl) h1 T.clP T.nPart (lk1 _ _)) h2 H (Ex.refl H) _ fun l H2 hl e2 hl2 => kq l H2 hl e2 hl2
end
end K17
/-! gaps, truth; all depths. -/
namespace K17
open PySem PySem.Spec PyProof.Rows L2 Evl
def txs (cs : List V) : List Str := cs.filterMap fun x => match x with | .str z => some z | _ => none
theorem txs_filter : ∀ cs : List V, (∀ x ∈ cs, CellV x) → cs.filter isG = (txs cs).map V.str
  | [], _ => rfl
  | x :: cs, h => by
    have ih := txs_filter cs fun y hy => h y (List.mem_cons_of_mem _ hy)
    rcases h x List.mem_cons_self with ⟨i, rfl⟩ | ⟨z, rfl⟩
    · rw [List.filter_cons, if_neg (show ¬ isG (V.int i) = true from Bool.false_ne_true), ih]
      rfl
    · rw [List.filter_cons, if_pos (show isG (V.str z) = true from rfl), ih]
      rfl
theorem txs_mem {cs : List V} {z : Str} (h : z ∈ txs cs) : V.str z ∈ cs := by
  obtain ⟨x, hx, e⟩ := List.mem_filterMap.mp h
  match x, e with
  | .str y, e => rw [← Option.some.inj e]; exact hx
theorem txs_len (cs : List V) : (txs cs).length ≤ cs.length := List.length_filterMap_le _ _
def spGaps (c : Cl) (n : Nat) : Sp := fun vs H Q _ => ∃ d : Cn, vs = [.ref d.a] ∧ CondN c H n d ∧ RetP (fun v H' => ∃ p, ∃ ys : List Str, v = .ref p ∧ H' p = some (.lst (ys.map V.str)) ∧ ∀ z ∈ ys, V.str z ∈ d.cs) H Q
def spTruth (c : Cl) (n : Nat) : Sp := fun vs H Q _ => ∃ (d : Cn) (dd : Addr) (f : Str → Int), vs = [.ref d.a, .ref dd] ∧ CondN c H n d ∧ FillAt H dd f d.cs ∧ RetV (.bl (d.h f)) H Q
section
variable {P : Program} {w : World} {K : PySem.W.Frag} {mg : Str → Option Value} {base : Heap} {c : Cl} {f : Addr} {fd : FuncData}
theorem scGaps : FnScope ["self", "cell"] ["self"] (defScope sGaps) := ⟨rfl, rfl, rfl, by decide +kernel, rfl, by decide +kernel, by decide +kernel⟩
theorem ok_gaps {k n : Nat} (hk : 1 ≤ k) (F : Fun K "gaps" "Cond.gaps" sGaps f fd) (T : Txt K mg c) (G : CellsOk P w K mg base c k n) (I : Def P w K mg base 1 "is_gap" ["cell"] spIsGap) : FnOk P w K mg base CX0 (k + 1) f fd ["self"] (spGaps c n) := by
  obtain ⟨f1, fd1, G1, m1, k1, b1⟩ := I
  refine F.ok scGaps (fun vs H Q E h => ?_) (fun cdv A outer s H vs Q E hr h => ?_)
  · obtain ⟨d, rfl, _⟩ := h
    rfl
  · obtain ⟨d, rfl, hd, kq⟩ := h
    have hr1 : Room 1 _ := hr.mono hk
    refine ⟨_, pss_one (ps_ret (pe_callB (cr_sortedTx rfl) (by rfl) T.fSorted (by decide +kernel) (pa_cons (pe_callTy (cr_setTx rfl) (by rfl) T.fSet (by decide +kernel) (pa_cons
      (pe_lc (own := [("cell", 1)]) (g := gName 1) rfl scGaps.nd (pi_list (pe_d0 G T hr (pv 0))) (blkOk_by (own := [("cell", 1)]) (N := ["self", "cell"]) (sc := defScope sGaps) (by decide +kernel))
        (fun _ _ _ _ _ => pg_name (i := 1) scGaps.nd rfl (Or.inl rfl)) (fun _ _ _ _ _ => pts_one (pt_val (pe_call G1 hr1 (by rfl) m1 k1 b1 .nil pass0 (pa_cons (pv 1) pa_nil)))) (fun _ _ _ _ _ => pv 1)) pa_nil)) pa_nil))), ?_⟩
    obtain ⟨hC, hL⟩ := hd.cells
    have q := el_lcNL (K := K) (σ := [some (.ref d.a), none]) (H := H) (xs := d.cs) (tl := tD c "cells" (spCells (TruthAt c)) (spCells (SameAt c)) (spCells (AllN c n)) (spCells (OneN c n)) (spCells (OppN c n)) (tVar 0) tNil)
      (t := tB (tCall spIsGap [] E0 (tCons (tVar 1) tNil))) (te := tVar 1) (j := 1) (vs := [1]) (fun i => isG (d.cs.getD i .non)) (fun i => d.cs.getD i .non) (el_cells (ev_var rfl) hd) (by omega) (fun x => rfl)
      (fun i x H1 e1 hi => ?_) (fun i x H1 e1 hi _ => ?_)
    · rw [given_filter (fun x => x) isG _ _ d.cs (fun i y hy => by rw [List.getD_eq_getElem?_getD, hy]; rfl) (fun i y hy => by rw [List.getD_eq_getElem?_getD, hy]; rfl), List.map_id'', txs_filter d.cs hC] at q
      · exact q H (Ex.refl H) (fun x H1 => rSetTx K w [x] H1 fun y H2 => rSortedTx w [y] H2 Q) fun l H1 _ e1 hl => ⟨l, txs d.cs, rfl, SqL.of hl, (by have := txs_len d.cs; unfold scanBound; omega), fun a ha =>
          ⟨a, txs d.cs, _, rfl, upd_same, (by have := txs_len d.cs; omega), fun ys p sub _ hp => kq _ _ ((e1.trans (Ex.new ha)).trans (Ex.new hp)) ⟨p, ys, rfl, upd_same, fun z hz => txs_mem (sub z hz)⟩⟩⟩
      · exact fun _ => rfl
    · refine et_B (ev_callV (vs := [x]) (ea_cons (ev_var rfl) ea_nil) fun H2 e2 Q r E => ⟨x, rfl, hC x (List.mem_of_getElem? hi), ?_⟩)
      rw [List.getD_eq_getElem?_getD, hi] at r
      exact r
    · rw [List.getD_eq_getElem?_getD, hi]
      exact ev_var rfl
theorem scTruth : FnScope ["self", "filling", "gap"] ["self", "filling"] (defScope sTruth) := ⟨rfl, rfl, rfl, by decide +kernel, rfl, by decide +kernel, by decide +kernel⟩
theorem ok_truth {k j n : Nat} (hj : j ≤ k) (F : Fun K "truth" "Cond.truth" sTruth f fd) (T : Txt K mg c) (GH : HoldsOk P w K mg base c k n)
    (GG : Five P w K mg base j c "gaps" ["self"] (spGaps c n) (spGaps c n) (spGaps c n) (spGaps c n) (spGaps c n)) : FnOk P w K mg base CX0 (k + 1) f fd ["self", "filling"] (spTruth c n) := by
  refine F.ok scTruth (fun vs H Q E h => ?_) (fun cdv A outer s H vs Q E hr h => ?_)
  · obtain ⟨d, dd, f, rfl, _⟩ := h
    rfl
  · obtain ⟨d, dd, fl, rfl, hd, hF, kq⟩ := h
    have hu := hu_of hr
    refine ⟨_, pss_cons (ps_for PassesOwn.never rfl (pi_list (pe_d0 GG T (hr.mono hj) (pv 0))) (pg_name (i := 2) scTruth.nd rfl (Or.inl rfl)) (pss_one (ps_if (pt_cmp (pc_dnotin hu (pv 2) (pv 1))) (pss_one ps_never) pss_nil)))
      (pss_one (ps_ret (pe_d GH T hr (pv 0) (pa_cons (pv 1) pa_nil)))), ?_⟩
    have g := evp_d (σ := [some (.ref d.a), some (.ref dd), none]) (to := tVar 0) (c := c) (m := "gaps") (H := H) (Pp := fun v H' => ∃ p, ∃ ys : List Str, v = .ref p ∧ H' p = some (.lst (ys.map V.str)) ∧ ∀ z ∈ ys, V.str z ∈ d.cs)
      (s1 := spGaps c n) (s2 := spGaps c n) (s3 := spGaps c n) (s4 := spGaps c n) (s5 := spGaps c n) ⟨by decide +kernel, by decide +kernel, by decide +kernel, by decide +kernel, by decide +kernel⟩ (ev_var rfl) hd (ea_nil (σ := [some (.ref d.a), some (.ref dd), none]))
      (fun _ H1 e Q r E => ⟨d, rfl, hd.ex e, r⟩) (fun _ H1 e Q r E => ⟨d, rfl, hd.ex e, r⟩) (fun _ H1 e Q r E => ⟨d, rfl, hd.ex e, r⟩) (fun _ H1 e Q r E => ⟨d, rfl, hd.ex e, r⟩) (fun _ H1 e Q r E => ⟨d, rfl, hd.ex e, r⟩)
    refine g H (Ex.refl H) _ fun v H1 e1 ⟨p, ys, ev, hp, sub⟩ => ?_
    subst ev
    refine ⟨p, rfl, ⟨_, sq_of hp⟩, for_list (K := K) (a := p) (xs := ys.map V.str) (fun i σ H' => ∃ v : Option V, σ = [some (.ref d.a), some (.ref dd), v] ∧ Ex H1 H') ⟨none, rfl, Ex.refl H1⟩ (fun i σ H' _ ⟨_, _, e⟩ => sq_of (e _ _ hp)) ?_ ?_⟩
    · rintro i x σ H' hi ⟨v, rfl, e⟩
      rw [List.getElem?_map] at hi
      cases hz : ys[i]? with
      | none => rw [hz] at hi; cases hi
      | some z =>
        rw [hz] at hi
        have ex := Option.some.inj hi
        subst ex
        obtain ⟨kvs, f1, f2⟩ := hF.ex (e1.trans e)
        refine ⟨_, rfl, _, rfl, dd, _, rfl, DGet.k (k := Sum.inr z) f1, _, rfl, ?_⟩
        rw [f2 z (sub z (List.mem_of_getElem? hz))]
        exact iteF ⟨_, rfl, e⟩
    · rintro σ H' ⟨v, rfl, e⟩
      exact ev_holds (ev_var rfl) (ea_cons (ev_var rfl) ea_nil) (hd.ex (e1.trans e)) (hF.ex (e1.trans e)) H' (Ex.refl H') _ fun H2 e2 => kq H2 ((e1.trans e).trans e2)
/-! ### all depths -/
theorem ok_vac {k : Nat} {x qual : Str} {st : Stmt} {N ps : List Str} {sp : Sp} (F : Fun K x qual st f fd) (S : FnScope N ps (defScope st)) (hv : ∀ vs H Q E, ¬ sp vs H Q E) : FnOk P w K mg base CX0 (k + 1) f fd ps sp :=
  F.ok S (fun vs H Q E h => (hv vs H Q E h).elim) fun _ _ _ _ H vs Q E _ h => (hv vs H Q E h).elim
theorem metd_of {k : Nat} {C : Addr} {m qual : Str} {st : Stmt} {ps : List Str} {sp : Sp} (F : Fun K m qual st f fd) (G : FnOk P w K mg base CX0 k f fd ps sp) (M : Meth K C m f) (b : Binds K fd ps []) : Metd P w K mg base k C m ps sp := ⟨f, fd, G, M, b⟩
theorem metd_up {j k : Nat} {C : Addr} {m : Str} {ps : List Str} {sp : Sp} (h : j ≤ k) (M : Metd P w K mg base j C m ps sp) : Metd P w K mg base k C m ps sp := let ⟨f, fd, G, r⟩ := M; ⟨f, fd, G.mono h, r⟩
theorem def_up {j k : Nat} {x : Str} {ps : List Str} {sp : Sp} (h : j ≤ k) (M : Def P w K mg base j x ps sp) : Def P w K mg base k x ps sp := let ⟨f, fd, G, r⟩ := M; ⟨f, fd, G.mono h, r⟩
theorem holds_all {f1 f2 f3 f4 f5 : Addr} {d1 d2 d3 d4 d5 : FuncData} (T : Txt K mg c) (GT : Def P w K mg base 2 "come_to" ["cell", "filling"] spComeTo)
    (F1 : Fun K "holds" "Truth.holds" sTHolds f1 d1) (M1 : Meth K c.T "holds" f1) (b1 : Binds K d1 ["self", "filling"] []) (F2 : Fun K "holds" "Same.holds" sSHolds f2 d2) (M2 : Meth K c.S "holds" f2) (b2 : Binds K d2 ["self", "filling"] [])
    (F3 : Fun K "holds" "AllOf.holds" sAHolds f3 d3) (M3 : Meth K c.A "holds" f3) (b3 : Binds K d3 ["self", "filling"] []) (F4 : Fun K "holds" "OneOf.holds" sOHolds f4 d4) (M4 : Meth K c.O "holds" f4) (b4 : Binds K d4 ["self", "filling"] [])
    (F5 : Fun K "holds" "Opposite.holds" sPHolds f5 d5) (M5 : Meth K c.P "holds" f5) (b5 : Binds K d5 ["self", "filling"] []) : ∀ n, HoldsOk P w K mg base c (n + 3) n
  | 0 => ⟨⟨f1, d1, (ok_THolds F1 T).mono (by decide), M1, b1⟩, ⟨f2, d2, ok_SHolds F2 T GT, M2, b2⟩, ⟨f3, d3, ok_vac F3 scAHolds (fun _ _ _ _ ⟨_, _, _, _, h, _⟩ => h), M3, b3⟩,
      ⟨f4, d4, ok_vac F4 scOHolds (fun _ _ _ _ ⟨_, _, _, _, h, _⟩ => h), M4, b4⟩, ⟨f5, d5, ok_vac F5 scPHolds (fun _ _ _ _ ⟨_, _, _, _, h, _⟩ => h), M5, b5⟩⟩
  | n + 1 =>
    have G := holds_all T GT F1 M1 b1 F2 M2 b2 F3 M3 b3 F4 M4 b4 F5 M5 b5 n
    ⟨⟨f1, d1, (ok_THolds F1 T).mono (by omega), M1, b1⟩, ⟨f2, d2, (ok_SHolds F2 T GT).mono (by omega), M2, b2⟩, ⟨f3, d3, ok_AHolds F3 T G, M3, b3⟩, ⟨f4, d4, ok_OHolds F4 T G, M4, b4⟩, ⟨f5, d5, ok_PHolds F5 T G, M5, b5⟩⟩
theorem cells_all {f1 f2 f3 f5 : Addr} {d1 d2 d3 d5 : FuncData} (T : Txt K mg c)
    (F1 : Fun K "cells" "Cond.cells" sCCells f1 d1) (M1 : Meth K c.T "cells" f1) (b1 : Binds K d1 ["self"] []) (F2 : Fun K "cells" "Same.cells" sSCells f2 d2) (M2 : Meth K c.S "cells" f2) (b2 : Binds K d2 ["self"] [])
    (F3 : Fun K "cells" "Several.cells" sVCells f3 d3) (M3 : Meth K c.A "cells" f3) (b3 : Binds K d3 ["self"] []) (M4 : Meth K c.O "cells" f3)
    (F5 : Fun K "cells" "Opposite.cells" sPCells f5 d5) (M5 : Meth K c.P "cells" f5) (b5 : Binds K d5 ["self"] []) : ∀ n, CellsOk P w K mg base c (n + 1) n
  | 0 => ⟨⟨f1, d1, ok_CCells F1, M1, b1⟩, ⟨f2, d2, ok_SCells F2 T, M2, b2⟩, ⟨f3, d3, ok_vac F3 scVCells (fun _ _ _ _ ⟨_, _, h, _⟩ => h), M3, b3⟩,
      ⟨f3, d3, ok_vac F3 scVCells (fun _ _ _ _ ⟨_, _, h, _⟩ => h), M4, b3⟩, ⟨f5, d5, ok_vac F5 scPCells (fun _ _ _ _ ⟨_, _, h, _⟩ => h), M5, b5⟩⟩
  | n + 1 =>
    have G := cells_all T F1 M1 b1 F2 M2 b2 F3 M3 b3 M4 F5 M5 b5 n
    ⟨⟨f1, d1, (ok_CCells F1).mono (by omega), M1, b1⟩, ⟨f2, d2, (ok_SCells F2 T).mono (by omega), M2, b2⟩, ⟨f3, d3, ok_VCells F3 T T.clA T.nPartsA G, M3, b3⟩, ⟨f3, d3, ok_VCells F3 T T.clO T.nPartsO G, M4, b3⟩, ⟨f5, d5, ok_PCells F5 T G, M5, b5⟩⟩
end
end K17
/-! A cell of the script, a value, the values; bound, fresh. -/
namespace K17
open PySem PySem.Spec PyProof.Rows L2 Evl
def atF (ns : List Int) (k : Nat) : Int := ns.getD k 0
def valF (c : Int) : Int :=
  if c % 3 < 2 then c / 3 % 10 - 3
  else if c / 3 % 2 = 1 then -(if c / 6 % 5 = 3 then (10 : Int) ^ 60 - 1 else c / 6 % (10 : Int) ^ 60) else (if c / 6 % 5 = 3 then (10 : Int) ^ 60 - 1 else c / 6 % (10 : Int) ^ 60)
def spAt (K : PySem.W.Frag) : Sp := fun vs H Q _ => ∃ (a : Addr) (ns : List Int) (k : Nat), vs = [.ref a, .int k] ∧ SqL K H a (ns.map V.int) ∧ RetV (.int (atF ns k)) H Q
def spValue : Sp := fun vs H Q _ => ∃ i : Int, vs = [.int i] ∧ RetV (.int (valF i)) H Q
/-- a list of these stands at the value -/
def IsL (xs : List V) (v : V) (H : Hp) : Prop := ∃ p, v = .ref p ∧ H p = some (.lst xs)
def spValues (K : PySem.W.Frag) : Sp := fun vs H Q _ => ∃ (a : Addr) (ns : List Int), vs = [.ref a] ∧ SqL K H a (ns.map V.int) ∧ RetP (fun v H' => ∃ us : List Int, IsL (us.map V.int) v H' ∧ us.Nodup ∧ us ≠ [] ∧ us.length ≤ 3) H Q
theorem cell_at (ns : List Int) (k : Nat) : atI (cutV (ns.map V.int) (some (k : Int)) (some ((k : Int) + 1)) ++ [V.int 0]) 0 = some (.int (atF ns k)) := by
  have e1 : ((k : Int) + 1) = ((k + 1 : Nat) : Int) := by omega
  have e0 : (0 : Int) = ((0 : Nat) : Int) := rfl
  rw [e1, e0]
  refine atI_nat ?_
  unfold cutV atF
  rw [HT.sIx_nat, HT.sIx_nat, List.length_map]
  by_cases h : k < ns.length
  · have m1 : min k ns.length = k := by omega
    have m2 : min (k + 1) ns.length - k = 1 := by omega
    rw [m1, m2, List.getElem?_append_left (by simp; omega), List.getElem?_take, if_pos (by decide), List.getElem?_drop, List.getElem?_map, Nat.add_zero, List.getElem?_eq_getElem h, List.getD_eq_getElem?_getD, List.getElem?_eq_getElem h]
    rfl
  · have m1 : min k ns.length = ns.length := by omega
    have m2 : min (k + 1) ns.length - ns.length = 0 := by omega
    have z : ns.getD k 0 = 0 := by
      rw [List.getD_eq_getElem?_getD, List.getElem?_eq_none_iff.mpr (Nat.not_lt.mp h)]
      rfl
    rw [m1, m2, List.take_zero, List.nil_append, z]
    rfl
section
variable {P : Program} {w : World} {K : PySem.W.Frag} {mg : Str → Option Value} {base : Heap} {c : Cl} {f : Addr} {fd : FuncData}
theorem scAt : FnScope ["_law_script", "_law_k"] ["_law_script", "_law_k"] (defScope sAt) := ⟨rfl, rfl, rfl, by decide +kernel, rfl, by decide +kernel, by decide +kernel⟩
theorem ok_at (F : Fun K "_law_at" "_law_at" sAt f fd) : FnOk P w K mg base CX0 1 f fd ["_law_script", "_law_k"] (spAt K) := by
  refine F.ok scAt (fun vs H Q E h => ?_) (fun cdv A outer s H vs Q E hr h => ?_)
  · obtain ⟨a, ns, k, rfl, _⟩ := h
    rfl
  · obtain ⟨a, ns, k, rfl, hS, kq⟩ := h
    refine ⟨_, pss_one (ps_ret (pe_ix ix_list (pe_op op_cat (pe_slice sl_list (pv 0) (po_some (pv 1)) (po_some (pe_op op_add (pv 1) pe_int))) (pe_lst (pa_cons pe_int pa_nil))) pe_int (fun _ _ => rfl))), ?_⟩
    refine ⟨_, rfl, _, rfl, _, rfl, _, rfl, _, _, rfl, rfl, _, rfl, a, _, rfl, hS, fun p hp => ?_⟩
    refine ⟨by show 1 ≤ sizeLine; decide, fun q hq => ?_⟩
    have npq : p ≠ q := ne_of_none upd_same hq
    refine ⟨p, q, _, _, rfl, rfl, (by rw [upd_ne npq]; exact upd_same), upd_same, ?_, fun t ht => ?_⟩
    · refine Nat.le_of_lt (small1000 ?_)
      unfold cutV
      rw [List.length_take, List.length_singleton]
      have e1 : ((k : Int) + 1) = ((k + 1 : Nat) : Int) := by omega
      rw [e1, HT.sIx_nat, HT.sIx_nat]
      omega
    · exact ⟨t, _, _, _, rfl, rfl, SqL.of upd_same, cell_at ns k, kq _ (((Ex.new hp).trans (Ex.new hq)).trans (Ex.new ht))⟩
theorem scValue : FnScope ["_law_cell", "_law_number"] ["_law_cell"] (defScope sValue) := ⟨rfl, rfl, rfl, by decide +kernel, rfl, by decide +kernel, by decide +kernel⟩
theorem ten60 : (10 : Int) ^ (60 : Int).toNat = (10 : Int) ^ 60 := rfl
theorem pos60 : (0 : Int) < (10 : Int) ^ (60 : Int).toNat := by decide
theorem pow_ok (n : Int) (h : 0 ≤ n ∧ n ≤ 1000000) : CPow 10 n := ⟨h.1, h.2, by decide⟩
theorem ok_value (F : Fun K "_law_value" "_law_value" sValue f fd) : FnOk P w K mg base CX0 1 f fd ["_law_cell"] spValue := by
  refine F.ok scValue (fun vs H Q E h => ?_) (fun cdv A outer s H vs Q E hr h => ?_)
  · obtain ⟨i, rfl, _⟩ := h
    rfl
  · obtain ⟨i, rfl, kq⟩ := h
    have kq : Q (.int (valF i)) H := kq H (Ex.refl H)
    refine ⟨_, pss_cons (ps_if (pt_cmpR op_lt (pe_op op_mod (pv 0) pe_int) pe_int (nomark _)) (pss_one (ps_ret (pe_op op_sub (pe_op op_mod (pe_op op_fdiv (pv 0) pe_int) pe_int) pe_int))) pss_nil)
      (pss_cons (ps_set (i := 1) scValue.nd rfl (Or.inl rfl) (pe_op op_mod (pe_op op_fdiv (pv 0) pe_int) (pe_op op_pow pe_int pe_int)))
      (pss_cons (ps_if (pt_cmpR op_eq (pe_op op_mod (pe_op op_fdiv (pv 0) pe_int) pe_int) pe_int (nomark _)) (pss_one (ps_set (i := 1) scValue.nd rfl (Or.inl rfl) (pe_op op_sub (pe_op op_pow pe_int pe_int) pe_int))) pss_nil)
      (pss_cons (ps_if (pt_cmpR op_eq (pe_op op_mod (pe_op op_fdiv (pv 0) pe_int) pe_int) pe_int (nomark _)) (pss_one (ps_ret (pe_un un_neg (pv 1)))) pss_nil)
      (pss_one (ps_ret (pv 1)))))), ?_⟩
    refine ⟨_, rfl, _, _, rfl, rfl, (by show (0 : Int) < 3; decide), _, _, rfl, rfl, _, rfl, ?_⟩
    by_cases h1 : i % 3 < 2
    · rw [decide_eq_true h1]
      refine iteT ⟨_, rfl, _, _, rfl, rfl, ⟨by decide, by decide⟩, _, _, rfl, rfl, (by show (0 : Int) < 10; decide), _, _, rfl, rfl, ?_⟩
      unfold valF at kq
      rw [if_pos h1] at kq
      exact kq
    · rw [decide_eq_false h1]
      unfold valF at kq
      rw [if_neg h1] at kq
      refine iteF ⟨_, rfl, _, _, rfl, rfl, ⟨by decide, by decide⟩, _, _, rfl, rfl, ⟨by decide, by decide, by decide⟩, _, _, rfl, rfl, pos60, ?_⟩
      refine ⟨_, rfl, _, _, rfl, rfl, ⟨by decide, by decide⟩, _, _, rfl, rfl, (by show (0 : Int) < 5; decide), rfl, _, rfl, ?_⟩
      rw [int_eq]
      by_cases h2 : i / 6 % 5 = 3
      · rw [decide_eq_true h2]
        rw [if_pos h2] at kq
        refine iteT ⟨_, _, rfl, rfl, ⟨by decide, by decide, by decide⟩, _, _, rfl, rfl, ?_⟩
        refine ⟨_, rfl, _, _, rfl, rfl, ⟨by decide, by decide⟩, _, _, rfl, rfl, (by show (0 : Int) < 2; decide), rfl, _, rfl, ?_⟩
        rw [int_eq]
        by_cases h3 : i / 3 % 2 = 1
        · rw [decide_eq_true h3]
          rw [if_pos h3] at kq
          exact iteT ⟨_, rfl, _, rfl, kq⟩
        · rw [decide_eq_false h3]
          rw [if_neg h3] at kq
          exact iteF ⟨_, rfl, kq⟩
      · rw [decide_eq_false h2]
        rw [if_neg h2] at kq
        refine iteF ⟨_, rfl, _, _, rfl, rfl, ⟨by decide, by decide⟩, _, _, rfl, rfl, (by show (0 : Int) < 2; decide), rfl, _, rfl, ?_⟩
        rw [int_eq]
        by_cases h3 : i / 3 % 2 = 1
        · rw [decide_eq_true h3]
          rw [if_pos h3] at kq
          exact iteT ⟨_, rfl, _, rfl, kq⟩
        · rw [decide_eq_false h3]
          rw [if_neg h3] at kq
          exact iteF ⟨_, rfl, kq⟩
end
end K17
/-! The values; bound, fresh. -/
namespace K17
open PySem PySem.Spec PyProof.Rows L2 Evl
theorem flat_ints (us : List Int) : (us.map V.int).all flatV = true := by
  rw [List.all_map]
  exact List.all_eq_true.mpr fun _ _ => rfl
theorem inV_ints (i : Int) (us : List Int) : inV (.int i) (us.map V.int) = decide (i ∈ us) := by
  unfold inV
  rw [List.any_map, Bool.eq_iff_iff, List.any_eq_true, decide_eq_true_iff]
  constructor
  · rintro ⟨y, hy, e⟩
    have e : (y == i) = true := e
    exact beq_iff_eq.mp e ▸ hy
  · intro h
    exact ⟨i, h, beq_self_eq_true i⟩
def spBound : Sp := fun vs H Q _ => ∃ g m : Nat, vs = [.int g, .int m] ∧ g ≤ 3 ∧ m ≤ 5 ∧ RetP (fun v _ => ∃ z : Int, v = .int z ∧ z ≤ 1000) H Q
def spFresh (K : PySem.W.Frag) : Sp := fun vs H Q _ => ∃ (a : Addr) (us : List Int) (m : Nat), vs = [.ref a, .int m] ∧ SqL K H a (us.map V.int) ∧ us.length ≤ 10 ∧ m ≤ 3 ∧
  RetP (fun v H' => ∃ new : List Int, IsL (new.map V.int) v H' ∧ new.Nodup ∧ new.length = m ∧ ∀ x ∈ new, x ∉ us) H Q
section
variable {P : Program} {w : World} {K : PySem.W.Frag} {mg : Str → Option Value} {base : Heap} {c : Cl} {f : Addr} {fd : FuncData}
theorem scValues : FnScope ["_law_script", "_law_values_here", "_law_k", "_law_value_here"] ["_law_script"] (defScope sValues) := ⟨rfl, rfl, rfl, by decide +kernel, rfl, by decide +kernel, by decide +kernel⟩
theorem ok_values (F : Fun K "_law_values" "_law_values" sValues f fd) (T : Txt K mg c) (GA : Def P w K mg base 1 "_law_at" ["_law_script", "_law_k"] (spAt K)) (GV : Def P w K mg base 1 "_law_value" ["_law_cell"] spValue) :
    FnOk P w K mg base CX0 2 f fd ["_law_script"] (spValues K) := by
  obtain ⟨f1, fd1, G1, m1, k1, b1⟩ := GA
  obtain ⟨f2, fd2, G2, m2, k2, b2⟩ := GV
  refine F.ok scValues (fun vs H Q E h => ?_) (fun cdv A outer s H vs Q E hr h => ?_)
  · obtain ⟨a, ns, rfl, _⟩ := h
    rfl
  · obtain ⟨a, ns, rfl, hS, kq⟩ := h
    refine ⟨_, pss_cons (ps_set (i := 1) scValues.nd rfl (Or.inl rfl) (pe_lst pa_nil))
      (pss_cons (ps_for PassesOwn.never rfl (pi_range1 (by rfl) T.fRange (pa_cons (pe_op op_add pe_int (pe_op op_mod (pe_call G1 hr (by rfl) m1 k1 b1 .nil pass0 (pa_cons (pv 0) (pa_cons pe_int pa_nil))) pe_int)) pa_nil)) (pg_name (i := 2) scValues.nd rfl (Or.inl rfl))
        (pss_cons (ps_set (i := 3) scValues.nd rfl (Or.inl rfl) (pe_call G2 hr (by rfl) m2 k2 b2 .nil pass0 (pa_cons (pe_call G1 hr (by rfl) m1 k1 b1 .nil pass0 (pa_cons (pv 0) (pa_cons (pe_op op_add pe_int (pv 2)) pa_nil))) pa_nil)))
        (pss_one (ps_if (pt_cmpR op_notIn_seq (pv 3) (pv 1) rfl) (pss_one (ps_expr (pe_bm PySem.F.plainAttrs_list PySem.F.slot_list_append PySem.F.type_list_append mt_append (pv 1) (pa_cons (pv 3) pa_nil)))) pss_nil))))
      (pss_one (ps_ret (pv 1)))), ?_⟩
    refine ⟨Nat.zero_le _, fun l hl => ?_⟩
    have e0 : Ex H (upd H l (.lst [])) := Ex.new hl
    refine ⟨_, rfl, a, ns, 2, rfl, ex_l e0 hS, fun H1 e1 => ?_⟩
    refine ⟨_, _, rfl, rfl, (by show (0 : Int) < 3; decide), _, _, rfl, rfl, _, rfl, (by omega), (by omega), ?_⟩
    have hn : ∃ n : Nat, (1 + atF ns 2 % 3).toNat = n ∧ 1 ≤ n ∧ n ≤ 3 := ⟨_, rfl, by omega, by omega⟩
    obtain ⟨n, en, n1, n3⟩ := hn
    rw [en]
    refine for_range (lo := 0) (n := n) (fun i σ H' => ∃ (us : List Int) (u v : Option V), σ = [some (.ref a), some (.ref l), u, v] ∧ Ex H H' ∧ H' l = some (.lst (us.map V.int)) ∧ us.Nodup ∧ us.length ≤ i ∧ (1 ≤ i → us ≠ []))
      ⟨[], none, none, rfl, e0.trans e1, e1 _ _ upd_same, List.nodup_nil, Nat.le_refl _, fun h => absurd h (by decide)⟩ ?_ ?_
    · rintro i σ H' hi ⟨us, u, v, rfl, e, hL, nd, hle, hne⟩
      rw [Int.zero_add]
      refine ⟨_, rfl, _, rfl, _, _, rfl, rfl, a, ns, 3 + i, ?_, ex_l e hS, fun H2 e2 => ⟨_, rfl, fun H3 e3 => ?_⟩⟩
      · show [V.ref a, V.int (3 + (i : Int))] = [V.ref a, V.int (((3 + i : Nat)) : Int)]
        rw [Int.natCast_add]
        rfl
      · have eL : H3 l = some (.lst (us.map V.int)) := e3 _ _ (e2 _ _ hL)
        refine ⟨_, rfl, _, rfl, l, _, rfl, .inl (SqL.of eL), rfl, flat_ints us, _, rfl, ?_⟩
        rw [inV_ints]
        show if (!decide (valF (atF ns (3 + i)) ∈ us)) = true then _ else _
        by_cases hm : valF (atF ns (3 + i)) ∈ us
        · rw [decide_eq_true hm]
          refine iteF ⟨us, _, _, rfl, (e.trans e2).trans e3, eL, nd, Nat.le_succ_of_le hle, fun _ => List.ne_nil_of_mem hm⟩
        · rw [decide_eq_false hm]
          refine iteT ⟨_, rfl, .inl ⟨rfl, _, SqL.of eL⟩, _, rfl, l, _, _, rfl, rfl, eL, small1000 (by rw [List.length_map]; omega), ?_⟩
          refine ⟨us ++ [valF (atF ns (3 + i))], _, _, rfl, ((e.trans e2).trans e3).mut hl, ?_, nodup_snoc nd hm, ?_, fun _ => by simp⟩
          · rw [upd_same, List.map_append]
            rfl
          · rw [List.length_append, List.length_singleton]
            omega
    · rintro σ H' ⟨us, u, v, rfl, e, hL, nd, hle, hne⟩
      exact ⟨_, rfl, kq _ H' e ⟨us, ⟨l, rfl, hL⟩, nd, hne n1, Nat.le_trans hle n3⟩⟩
theorem scBound : FnScope ["gaps", "values", "told", "k"] ["gaps", "values"] (defScope sBound) := ⟨rfl, rfl, rfl, by decide +kernel, rfl, by decide +kernel, by decide +kernel⟩
theorem ok_bound (F : Fun K "bound" "bound" sBound f fd) (T : Txt K mg c) : FnOk P w K mg base CX0 1 f fd ["gaps", "values"] spBound := by
  refine F.ok scBound (fun vs H Q E h => ?_) (fun cdv A outer s H vs Q E hr h => ?_)
  · obtain ⟨g, m, rfl, _⟩ := h
    rfl
  · obtain ⟨g, m, rfl, hg, hm, kq⟩ := h
    refine ⟨_, pss_cons (ps_set (i := 2) scBound.nd rfl (Or.inl rfl) pe_int)
      (pss_cons (ps_for PassesOwn.never rfl (pi_range1 (by rfl) T.fRange (pa_cons (pv 0) pa_nil)) (pg_name (i := 3) scBound.nd rfl (Or.inl rfl))
        (pss_one (ps_set (i := 2) scBound.nd rfl (Or.inl rfl) (pe_op op_mul (pv 2) (pe_op op_add (pe_op op_add (pv 1) pe_int) (pv 3))))))
      (pss_one (ps_ret (pv 2)))), ?_⟩
    refine ⟨_, rfl, (g : Int), rfl, (by omega), (by omega), ?_⟩
    rw [Int.toNat_natCast]
    refine for_range (lo := 0) (n := g) (fun i σ H' => H' = H ∧ ∃ (z : Int) (v : Option V), σ = [some (.int g), some (.int m), some (.int z), v] ∧ 0 ≤ z ∧ z ≤ ([1, 8, 64, 512] : List Int).getD i 512) ⟨rfl, 1, none, rfl, by decide, by decide⟩ ?_ ?_
    · rintro i σ H' hi ⟨rfl, z, v, rfl, z0, z1⟩
      rw [Int.zero_add]
      have hz : z ≤ 512 := by
        refine Int.le_trans z1 ?_
        match i, hi with
        | 0, _ => decide
        | 1, _ => decide
        | 2, _ => decide
        | i + 3, h => exact absurd h (by omega)
      refine ⟨_, rfl, _, rfl, _, _, rfl, rfl, _, rfl, _, _, rfl, rfl, _, _, rfl, rfl, .inl ⟨by omega, by omega⟩, rfl, _, _, rfl, Int.mul_nonneg z0 (by omega), ?_⟩
      have hk : (m : Int) + 1 + (i : Int) ≤ 8 := by omega
      have q := Int.mul_le_mul z1 hk (by omega) (Int.le_trans z0 z1)
      refine Int.le_trans q ?_
      match i, hi with
      | 0, _ => decide
      | 1, _ => decide
      | 2, _ => decide
      | i + 3, h => exact absurd h (by omega)
    · rintro σ H' ⟨rfl, z, v, rfl, z0, z1⟩
      refine ⟨_, rfl, kq _ _ (Ex.refl _) ⟨z, rfl, Int.le_trans z1 ?_⟩⟩
      match g, hg with
      | 0, _ => decide
      | 1, _ => decide
      | 2, _ => decide
      | 3, _ => decide
      | g + 4, h => exact absurd h (by omega)
theorem scFresh : FnScope ["values", "many", "found", "number"] ["values", "many"] (defScope sFresh) := ⟨rfl, rfl, rfl, by decide +kernel, rfl, by decide +kernel, by decide +kernel⟩
theorem ok_fresh (F : Fun K "fresh" "fresh" sFresh f fd) (T : Txt K mg c) : FnOk P w K mg base CX0 1 f fd ["values", "many"] (spFresh K) := by
  refine F.ok scFresh (fun vs H Q E h => ?_) (fun cdv A outer s H vs Q E hr h => ?_)
  · obtain ⟨a, us, m, rfl, _⟩ := h
    rfl
  · obtain ⟨a, us, m, rfl, hS, h10, h3, kq⟩ := h
    refine ⟨_, pss_cons (ps_set (i := 2) scFresh.nd rfl (Or.inl rfl) (pe_lst pa_nil)) (pss_cons (ps_set (i := 3) scFresh.nd rfl (Or.inl rfl) pe_int)
      (pss_cons (ps_while PassesOwn.never (pt_cmpR op_lt (pe_callB call_len_seq (by rfl) T.fLen PySem.boot_len (pa_cons (pv 2) pa_nil)) (pv 1) (nomark _))
        (pss_cons (ps_if (pt_cmpR op_notIn_seq (pv 3) (pv 0) rfl) (pss_one (ps_expr (pe_bm PySem.F.plainAttrs_list PySem.F.slot_list_append PySem.F.type_list_append mt_append (pv 2) (pa_cons (pv 3) pa_nil)))) pss_nil)
          (pss_one (ps_aug (i := 3) scFresh.nd rfl (Or.inl rfl) pe_int ip_add))))
      (pss_one (ps_ret (pv 2))))), ?_⟩
    refine ⟨Nat.zero_le _, fun l hl => ?_⟩
    have e0 : Ex H (upd H l (.lst [])) := Ex.new hl
    refine ⟨fun μ σ H' => ∃ (fs : List Int) (k : Nat), σ = [some (.ref a), some (.int m), some (.ref l), some (.int k)] ∧ Ex H H' ∧ H' l = some (.lst (fs.map V.int)) ∧ FreshSt us fs k ∧ fs.length ≤ m ∧ μ = m + us.length - k,
      ⟨_, [], 0, rfl, e0, upd_same, FreshSt.start us, Nat.zero_le _, rfl⟩, ?_⟩
    rintro μ σ H' ⟨fs, k, rfl, e, hL, st, hfm, rfl⟩
    refine ⟨_, rfl, l, _, rfl, .inl (SqL.of hL), _, rfl, _, _, rfl, rfl, _, rfl, ?_⟩
    by_cases hlt : fs.length < m
    · have hd : decide ((((fs.map V.int).length : Nat) : Int) < (m : Int)) = true := decide_eq_true (by rw [List.length_map]; omega)
      rw [hd]
      have few := st.few
      refine iteT ⟨fun σ' H2 => ∃ (fs' : List Int), σ' = [some (.ref a), some (.int m), some (.ref l), some (.int ((k + 1 : Nat) : Int))] ∧ Ex H H2 ∧ H2 l = some (.lst (fs'.map V.int)) ∧ FreshSt us fs' (k + 1) ∧ fs'.length ≤ m, ?_, ?_⟩
      · rintro σ' H2 ⟨fs', rfl, e2, h2, s2, l2⟩
        exact ⟨m + us.length - (k + 1), by omega, fs', k + 1, rfl, e2, h2, s2, l2, rfl⟩
      · refine ⟨_, rfl, _, rfl, a, _, rfl, .inl (ex_l e hS), rfl, flat_ints us, _, rfl, ?_⟩
        rw [inV_ints]
        show if (!decide ((k : Int) ∈ us)) = true then _ else _
        by_cases hm : (k : Int) ∈ us
        · rw [decide_eq_true hm]
          exact iteF ⟨_, rfl, _, _, rfl, rfl, fs, rfl, e, hL, st.not hm, hfm⟩
        · rw [decide_eq_false hm]
          refine iteT ⟨_, rfl, .inl ⟨rfl, _, SqL.of hL⟩, _, rfl, l, _, _, rfl, rfl, hL, small1000 (by rw [List.length_map]; omega), ?_⟩
          refine ⟨_, rfl, _, _, rfl, rfl, fs ++ [(k : Int)], rfl, e.mut hl, ?_, st.got hm, ?_⟩
          · rw [upd_same, List.map_append]
            rfl
          · rw [List.length_append, List.length_singleton]
            omega
    · have hd : decide ((((fs.map V.int).length : Nat) : Int) < (m : Int)) = false := decide_eq_false (by rw [List.length_map]; omega)
      rw [hd]
      exact iteF ⟨_, rfl, kq _ H' e ⟨fs, ⟨l, rfl, hL⟩, st.nd, by omega, fun x hx => (st.out x hx).1⟩⟩
end
end K17
/-! Three unlike names. -/
namespace K17
open PySem PySem.Spec PyProof.Rows L2 Evl
abbrev abc : Str := "abcdefghijklmnopqrstuvwxyz"
abbrev eee : Str := "eee"
theorem abc_codes : abc.cps.toList = (List.range 26).map fun j => 97 + j := by decide +kernel
theorem eee_codes : eee.cps.toList = [101, 101, 101] := by decide +kernel
theorem abc_at (i : Int) : atI abc.cps.toList (i % 26) = some (97 + (i % 26).toNat) := by
  have e : i % 26 = (((i % 26).toNat : Nat) : Int) := by omega
  rw [abc_codes]
  conv => lhs; rw [e]
  refine atI_nat ?_
  rw [List.getElem?_map, List.getElem?_range (by omega)]
  rfl
theorem codes_app (a b : Str) : (a ++ b).cps.toList = a.cps.toList ++ b.cps.toList := by
  show (a.cps ++ b.cps).toList = _
  rw [Array.toList_append]
theorem codes_len (z : Str) : z.cps.toList.length = z.length := Array.length_toList
theorem codes_take (z : Str) (k : Nat) : (cutS z none (some (k : Int))).cps.toList = z.cps.toList.take k := by
  unfold cutS
  rw [HT.sIx_none, HT.sIx_nat, Nat.sub_zero, List.drop_zero]
  show z.cps.toList.take (min k z.length) = _
  rw [← codes_len]
  exact List.take_eq_take_min.symm
theorem codes_drop (z : Str) (k : Nat) : (cutS z (some (k : Int)) none).cps.toList = z.cps.toList.drop k := by
  unfold cutS
  rw [HT.sIx_none, HT.sIx_nat]
  show (z.cps.toList.drop (min k z.length)).take (z.length - min k z.length) = _
  by_cases h : k ≤ z.length
  · rw [Nat.min_eq_left h]
    exact List.take_of_length_le (by rw [List.length_drop, codes_len]; omega)
  · rw [Nat.min_eq_right (by omega), Nat.sub_self, List.take_zero, List.drop_eq_nil_of_le (by rw [codes_len]; omega)]
def sgnF (c : Int) (k : Nat) : Str := ⟨#[97 + ((c / 98 + 15 * (k : Int)) % 26).toNat]⟩
def oneF (base : Str) (m : Nat) (c : Int) (k : Nat) : Str := cutS base none (some (m : Int)) ++ sgnF c k ++ cutS base (some (m : Int)) none
def twoF (base : Str) (k : Nat) : Str := cutS base none (some 3) ++ cutS eee (some (k : Int)) none
def nameF (base : Str) (m : Nat) (c : Int) (k : Nat) : Str := if c / 7 % 2 = 0 then oneF base m c k else twoF base k
theorem name_ne (base : Str) (m : Nat) (c : Int) {i j : Nat} (hij : i < j) (hj : j < 3) : nameF base m c i ≠ nameF base m c j := by
  intro e
  unfold nameF at e
  split at e
  · have q := congrArg (fun z : Str => z.cps.toList) e
    unfold oneF at q
    simp only [codes_app, codes_take, codes_drop] at q
    rw [List.append_assoc, List.append_assoc] at q
    have q := List.append_cancel_left q
    have q := List.append_cancel_right q
    have q : [97 + ((c / 98 + 15 * (i : Int)) % 26).toNat] = [97 + ((c / 98 + 15 * (j : Int)) % 26).toNat] := q
    have q := (List.cons.inj q).1
    match i, j, hij, hj with
    | 0, 1, _, _ => omega
    | 0, 2, _, _ => omega
    | 1, 2, _, _ => omega
    | 0, j + 3, _, h => omega
    | 1, 0, h, _ => omega
    | 1, 1, h, _ => omega
    | i + 2, j, h, h2 => omega
  · have q := congrArg (fun z : Str => z.cps.toList.length) e
    unfold twoF at q
    simp only [codes_app, codes_drop, List.length_append, List.length_drop, eee_codes] at q
    have l3 : ([101, 101, 101] : List Nat).length = 3 := rfl
    rw [l3] at q
    omega
def namesL (base : Str) (m : Nat) (c : Int) : List Str := (List.range 3).map (nameF base m c)
theorem names_nd (base : Str) (m : Nat) (c : Int) : (namesL base m c).Nodup := by
  have h1 := name_ne base m c (i := 0) (j := 1) (by decide) (by decide)
  have h2 := name_ne base m c (i := 0) (j := 2) (by decide) (by decide)
  have h3 := name_ne base m c (i := 1) (j := 2) (by decide) (by decide)
  show [nameF base m c 0, nameF base m c 1, nameF base m c 2].Nodup
  simp only [List.nodup_cons, List.mem_cons, List.not_mem_nil, or_false, not_or, not_false_eq_true, List.nodup_nil, and_true]
  exact ⟨⟨h1, h2⟩, h3⟩
def spNames : Sp := fun vs H Q _ => ∃ i : Int, vs = [.int i] ∧ RetP (fun v H' => ∃ ys : List Str, IsL (ys.map V.str) v H' ∧ ys.Nodup ∧ ys.length = 3) H Q
section
variable {P : Program} {w : World} {K : PySem.W.Frag} {mg : Str → Option Value} {base : Heap} {c : Cl} {f : Addr} {fd : FuncData}
theorem scNames : FnScope ["_law_cell", "_law_letters", "_law_base", "_law_k", "_law_at_here", "_law_names_here", "_law_sign", "_law_one"] ["_law_cell"] (defScope sNames) := ⟨rfl, rfl, rfl, by decide +kernel, rfl, by decide +kernel, by decide +kernel⟩
theorem ok_names (F : Fun K "_law_names" "_law_names" sNames f fd) (T : Txt K mg c) : FnOk P w K mg base CX0 1 f fd ["_law_cell"] spNames := by
  refine F.ok scNames (fun vs H Q E h => ?_) (fun cdv A outer s H vs Q E hr h => ?_)
  · obtain ⟨i, rfl, _⟩ := h
    rfl
  · obtain ⟨i, rfl, kq⟩ := h
    refine ⟨_, pss_cons (ps_set (i := 1) scNames.nd rfl (Or.inl rfl) pe_str) (pss_cons (ps_set (i := 2) scNames.nd rfl (Or.inl rfl) pe_str)
      (pss_cons (ps_for PassesOwn.never rfl (pi_range1 (by rfl) T.fRange (pa_cons (pe_op op_mod (pv 0) pe_int) pa_nil)) (pg_name (i := 3) scNames.nd rfl (Or.inl rfl))
        (pss_one (ps_set (i := 2) scNames.nd rfl (Or.inl rfl) (pe_op op_add_str (pv 2) (pe_ix ix_str (pv 1) (pe_op op_mod (pe_op op_fdiv (pv 0) (pe_op op_add (pe_op op_mul pe_int (pv 3)) pe_int)) pe_int) (fun _ _ => rfl))))))
      (pss_cons (ps_set (i := 4) scNames.nd rfl (Or.inl rfl) (pe_op op_mod (pe_op op_fdiv (pv 0) pe_int) (pe_op op_add (pe_callB call_len_str (by rfl) T.fLen PySem.boot_len (pa_cons (pv 2) pa_nil)) pe_int)))
      (pss_cons (ps_set (i := 5) scNames.nd rfl (Or.inl rfl) (pe_lst pa_nil))
      (pss_cons (ps_for PassesOwn.never rfl (pi_range1 (by rfl) T.fRange (pa_cons pe_int pa_nil)) (pg_name (i := 3) scNames.nd rfl (Or.inl rfl))
        (pss_cons (ps_set (i := 6) scNames.nd rfl (Or.inl rfl) (pe_ix ix_str (pv 1) (pe_op op_mod (pe_op op_add (pe_op op_fdiv (pv 0) pe_int) (pe_op op_mul pe_int (pv 3))) pe_int) (fun _ _ => rfl)))
        (pss_cons (ps_set (i := 7) scNames.nd rfl (Or.inl rfl) (pe_op op_add_str (pe_op op_add_str (pe_slice sl_str (pv 2) po_none (po_some (pv 4))) (pv 6)) (pe_slice sl_str (pv 2) (po_some (pv 4)) po_none)))
        (pss_one (ps_expr (pe_bm PySem.F.plainAttrs_list PySem.F.slot_list_append PySem.F.type_list_append mt_append (pv 5) (pa_cons (pe_ix ix_list (pe_lst (pa_cons (pv 7) (pa_cons (pe_op op_add_str (pe_slice sl_str (pv 2) po_none (po_some pe_int)) (pe_slice sl_str pe_str (po_some (pv 3)) po_none)) pa_nil)))
          (pe_op op_mod (pe_op op_fdiv (pv 0) pe_int) pe_int) (fun _ _ => rfl)) pa_nil)))))))
      (pss_one (ps_ret (pv 5)))))))), ?_⟩
    have line : ∀ {n : Nat}, n ≤ 1000 → n ≤ sizeLine := fun h => Nat.le_of_lt (small1000 h)
    refine ⟨_, rfl, _, _, rfl, rfl, (by show (0 : Int) < 7; decide), _, rfl, (by omega), (by omega), ?_⟩
    refine for_range (lo := 0) (n := (i % 7).toNat) (fun j σ H' => H' = H ∧ ∃ (b : Str) (u : Option V), σ = [some (.int i), some (.str abc), some (.str b), u, none, none, none, none] ∧ b.length ≤ j) ⟨rfl, _, none, rfl, Nat.le_refl _⟩ ?_ ?_
    · rintro j σ H' hj ⟨rfl, b, u, rfl, hb⟩
      rw [Int.zero_add]
      refine ⟨_, rfl, _, rfl, _, rfl, _, rfl, _, _, rfl, rfl, .inl ⟨by decide, by decide⟩, _, _, rfl, rfl, _, _, rfl, rfl, ⟨by omega, by omega⟩, _, _, rfl, rfl, (by show (0 : Int) < 26; decide), _, _, _, rfl, rfl, (by decide +kernel), abc_at _, _, _, rfl, rfl, line ?_, ?_⟩
      · show b.length + 1 ≤ 1000
        omega
      · refine ⟨rfl, _, _, rfl, ?_⟩
        rw [PySem.Str.length_append]
        show b.length + 1 ≤ j + 1
        omega
    · rintro σ H' ⟨rfl, b, u, rfl, hb⟩
      have hb : b.length ≤ 7 := by omega
      refine ⟨_, rfl, _, _, rfl, rfl, ⟨by decide, by decide⟩, _, rfl, _, rfl, line (by omega), _, _, rfl, rfl, _, _, rfl, rfl, (by show (0 : Int) < (b.length : Int) + 1; omega), ?_⟩
      obtain ⟨m, hm, ml⟩ : ∃ m : Nat, i / 14 % ((b.length : Int) + 1) = (m : Int) ∧ m ≤ b.length := by
        have q1 := Int.emod_nonneg (i / 14) (show ((b.length : Int) + 1) ≠ 0 by omega)
        have q2 := Int.emod_lt_of_pos (i / 14) (show 0 < (b.length : Int) + 1 by omega)
        exact ⟨(i / 14 % ((b.length : Int) + 1)).toNat, by omega, by omega⟩
      dsimp only
      rw [hm]
      refine ⟨Nat.zero_le _, fun l hl => ⟨3, rfl, (by decide), (by decide), ?_⟩⟩
      refine for_range (lo := 0) (n := 3) (fun j σ H2 => ∃ (u v x : Option V), σ = [some (.int i), some (.str abc), some (.str b), u, some (.int m), some (.ref l), v, x] ∧ Ex H' H2 ∧ H2 l = some (.lst (((List.range j).map (nameF b m i)).map V.str)))
        ⟨u, none, none, rfl, Ex.new hl, upd_same⟩ ?_ ?_
      · rintro j σ H2 hj ⟨u, v, x, rfl, e, hL⟩
        rw [Int.zero_add]
        refine ⟨_, rfl, _, rfl, _, _, rfl, rfl, ⟨by decide, by decide⟩, _, rfl, _, _, rfl, rfl, .inl ⟨by decide, by decide⟩, _, _, rfl, rfl, _, _, rfl, rfl, (by show (0 : Int) < 26; decide), _, _, _, rfl, rfl, (by decide +kernel), abc_at _, ?_⟩
        have l1 := cutS_length b none (some (m : Int))
        have l2 := cutS_length b (some (m : Int)) none
        have l3 := cutS_length b none (some 3)
        have l4 := cutS_length eee (some (j : Int)) none
        have l5 : eee.length = 3 := by decide +kernel
        have l6 : (sgnF i j).length = 1 := rfl
        have l7 : (oneF b m i j).length ≤ 15 := by
          unfold oneF
          rw [PySem.Str.length_append, PySem.Str.length_append, l6]
          omega
        have l8 : (twoF b j).length ≤ 15 := by
          unfold twoF
          rw [PySem.Str.length_append]
          omega
        refine ⟨_, rfl, _, rfl, _, rfl, _, rfl, line (by omega), _, rfl, _, _, rfl, rfl, line (by show (cutS b none (some (m : Int))).length + 1 ≤ 1000; omega), _, rfl, _, rfl, _, rfl, _, rfl, line (by omega), _, _, rfl, rfl, line ?_, ?_⟩
        · rw [PySem.Str.length_append]
          show (cutS b none (some (m : Int))).length + 1 + (cutS b (some (m : Int)) none).length ≤ 1000
          omega
        · refine ⟨_, rfl, .inl ⟨rfl, _, SqL.of hL⟩, _, rfl, _, rfl, _, rfl, _, rfl, line (by omega), _, rfl, _, rfl, _, rfl, line (by rw [l5]; decide), _, _, rfl, rfl, line (Nat.le_trans (Nat.add_le_add (Nat.le_trans l3 hb) (Nat.le_trans l4 (Nat.le_of_eq l5))) (by decide)), (by show 2 ≤ sizeLine; decide), fun p hp => ?_⟩
          have nlp : l ≠ p := ne_of_none hL hp
          refine ⟨_, rfl, _, _, rfl, rfl, ⟨by decide, by decide⟩, _, _, rfl, rfl, (by show (0 : Int) < 2; decide), p, [.str (oneF b m i j), .str (twoF b j)], _, .str (nameF b m i j), rfl, rfl, SqL.of upd_same, ?_, ?_⟩
          · have h2 : i / 7 % 2 = 0 ∨ i / 7 % 2 = 1 := by omega
            unfold nameF
            rcases h2 with h2 | h2
            · rw [h2, if_pos rfl]
              exact atI_nat (j := 0) rfl
            · rw [h2, if_neg (by decide)]
              exact atI_nat (j := 1) rfl
          · refine ⟨l, _, _, rfl, rfl, (by rw [upd_ne nlp]; exact hL), small1000 (by rw [List.length_map, List.length_map, List.length_range]; omega), ?_⟩
            refine ⟨_, _, _, rfl, (e.trans (Ex.new hp)).mut hl, ?_⟩
            rw [upd_same, List.range_succ, List.map_append, List.map_append]
            rfl
      · rintro σ H2 ⟨u, v, x, rfl, e, hL⟩
        exact ⟨_, rfl, kq _ H2 e ⟨namesL b m i, ⟨l, rfl, hL⟩, names_nd b m i, by unfold namesL; rw [List.length_map, List.length_range]⟩⟩
end
end K17
/-! Rows as dicts; the kinds. -/
namespace K17
open PySem PySem.Spec PyProof.Rows L2 Evl
def dRow (gs : List Str) (row : List Int) : List (Key × V) := (gs.zip row).map fun p => (Sum.inr p.1, V.int p.2)
theorem dRow_nil : dRow [] [] = [] := rfl
theorem dRow_snoc {gs : List Str} {row : List Int} (h : gs.length = row.length) (g : Str) (x : Int) : dRow (gs ++ [g]) (row ++ [x]) = dRow gs row ++ [(Sum.inr g, V.int x)] := by
  unfold dRow
  rw [List.zip_append h, List.map_append]
  rfl
theorem dRow_len {gs : List Str} {row : List Int} (h : gs.length = row.length) : (dRow gs row).length = gs.length := by
  unfold dRow
  rw [List.length_map, List.length_zip, ← h, Nat.min_self]
theorem dRow_no {g : Str} : ∀ {gs : List Str} {row : List Int}, g ∉ gs → valV (dRow gs row) (Sum.inr g : Key) = none
  | [], row, _ => by
    unfold dRow
    rw [List.zip_nil_left]
    exact valV_nil
  | a :: gs, [], _ => valV_nil
  | a :: gs, x :: row, h => by
    have h1 : ¬ (Sum.inr a : Key) = Sum.inr g := fun e => h (by rw [Sum.inr.inj e]; exact List.mem_cons_self)
    show valV ((Sum.inr a, V.int x) :: dRow gs row) (Sum.inr g : Key) = none
    rw [valV_neg (p := ((Sum.inr a : Key), V.int x)) h1]
    exact dRow_no fun m => h (List.mem_cons_of_mem _ m)
theorem dRow_at {g : Str} {x : Int} : ∀ {gs : List Str} {row : List Int} {i : Nat}, gs.Nodup → gs[i]? = some g → row[i]? = some x → valV (dRow gs row) (Sum.inr g : Key) = some (.int x)
  | [], _, _, _, h, _ => by simp at h
  | a :: gs, [], i, _, _, h => by simp at h
  | a :: gs, y :: row, 0, _, h1, h2 => by
    have e1 := Option.some.inj h1
    have e2 := Option.some.inj h2
    subst e1
    subst e2
    exact valV_pos (p := ((Sum.inr a : Key), V.int y)) rfl
  | a :: gs, y :: row, i + 1, nd, h1, h2 => by
    obtain ⟨n1, n2⟩ := List.nodup_cons.mp nd
    have hm : g ∈ gs := List.mem_of_getElem? (i := i) h1
    have h : ¬ (Sum.inr a : Key) = Sum.inr g := fun e => n1 (by rw [Sum.inr.inj e]; exact hm)
    show valV ((Sum.inr a, V.int y) :: dRow gs row) (Sum.inr g : Key) = _
    rw [valV_neg (p := ((Sum.inr a : Key), V.int y)) h]
    exact dRow_at (i := i) n2 h1 h2
/-- one kind on the way: its pair, its dict -/
abbrev Zk := Addr × Addr × (List Int × Nat)
def ZAt (gs : List Str) (H : Hp) (z : Zk) : Prop := H z.1 = some (.tup [.ref z.2.1, .int z.2.2.2]) ∧ H z.2.1 = some (.dK (dRow gs z.2.2.1))
def KS (gs : List Str) (H : Hp) (l : Addr) (ks : List (List Int × Nat)) : Prop := ∃ zs : List Zk, H l = some (.lst (zs.map fun z => V.ref z.1)) ∧ (∀ z ∈ zs, ZAt gs H z) ∧ zs.map (fun z => z.2.2) = ks
theorem ZAt.ex {gs : List Str} {H H' : Hp} {z : Zk} (e : Ex H H') (h : ZAt gs H z) : ZAt gs H' z := ⟨e _ _ h.1, e _ _ h.2⟩
theorem KS.ex {gs : List Str} {H H' : Hp} {l : Addr} {ks : List (List Int × Nat)} (e : Ex H H') (h : KS gs H l ks) : KS gs H' l ks := let ⟨zs, h1, h2, h3⟩ := h; ⟨zs, e _ _ h1, fun z hz => (h2 z hz).ex e, h3⟩
/-- another list is written -/
theorem ZAt.mut {gs : List Str} {H : Hp} {z : Zk} {m : Addr} {xs ys : List V} (hm : H m = some (.lst xs)) (h : ZAt gs H z) : ZAt gs (upd H m (.lst ys)) z := by
  have n1 : z.1 ≠ m := ne_of h.1 hm (by intro q; cases q)
  have n2 : z.2.1 ≠ m := ne_of h.2 hm (by intro q; cases q)
  exact ⟨by rw [upd_ne n1]; exact h.1, by rw [upd_ne n2]; exact h.2⟩
theorem KS.snoc {gs : List Str} {H : Hp} {l t dd : Addr} {ks : List (List Int × Nat)} {q : List Int × Nat} (h : KS gs H l ks) (h1 : H t = some (.tup [.ref dd, .int q.2])) (h2 : H dd = some (.dK (dRow gs q.1))) {zs : List V} (hz : H l = some (.lst zs)) :
    KS gs (upd H l (.lst (zs ++ [.ref t]))) l (ks ++ [q]) := by
  obtain ⟨ws, g1, g2, g3⟩ := h
  rw [hz] at g1
  have e : zs = ws.map fun z => V.ref z.1 := by injection g1 with g1; injection g1
  refine ⟨ws ++ [(t, dd, q)], ?_, fun z hz' => ?_, ?_⟩
  · rw [upd_same, List.map_append, e]
    rfl
  · have q0 : ZAt gs H z := by
      rcases List.mem_append.mp hz' with m | m
      · exact g2 z m
      · rw [List.mem_singleton.mp m]
        exact ⟨h1, h2⟩
    exact q0.mut hz
  · rw [List.map_append, g3]
    rfl
theorem opts_len (old new : List Int) (p : List Int × Nat) : (opts old new p).length = (old ++ new.take (p.2 + 1)).length := by
  unfold opts
  rw [List.length_map, List.length_zipIdx]
theorem opts_at {old new : List Int} {p : List Int × Nat} {q : Nat} {v : Int} (h : (old ++ new.take (p.2 + 1))[q]? = some v) : (opts old new p)[q]? = some (p.1 ++ [v], max p.2 (q + 1 - old.length)) := by
  unfold opts
  rw [List.getElem?_map, List.getElem?_zipIdx, h, Nat.zero_add]
  rfl
theorem kinds_few {old new : List Int} (h1 : old.length ≤ 5) (h2 : new.length ≤ 3) : ∀ n, n ≤ 3 → (kindsN old new n).length ≤ 8 ^ n := by
  intro n
  induction n with
  | zero => intro _; exact Nat.le_refl _
  | succ n ih =>
    intro hn
    have few : ∀ l : List (List Int × Nat), (l.flatMap (opts old new)).length ≤ l.length * 8 := by
      intro l
      induction l with
      | nil => exact Nat.zero_le _
      | cons p l ihl =>
        rw [List.flatMap_cons, List.length_append, List.length_cons, opts_len, List.length_append, List.length_take]
        omega
    have q := few (kindsN old new n)
    have r := ih (by omega)
    show ((kindsN old new n).flatMap (opts old new)).length ≤ 8 ^ (n + 1)
    rw [Nat.pow_succ]
    exact Nat.le_trans q (Nat.mul_le_mul_right 8 r)
theorem pow8 {n : Nat} (h : n ≤ 3) : 8 ^ n ≤ 512 := by
  match n, h with
  | 0, _ => decide
  | 1, _ => decide
  | 2, _ => decide
  | 3, _ => decide
  | n + 4, h => omega
theorem max_int (u k o : Nat) : (if ((k : Int) + 1 - (o : Int)) > (u : Int) then ((k : Int) + 1 - (o : Int)) else (u : Int)) = ((max u (k + 1 - o) : Nat) : Int) := by
  split <;> omega
def spKinds (K : PySem.W.Frag) : Sp := fun vs H Q _ => ∃ (g a : Addr) (gs : List Str) (us : List Int), vs = [.ref g, .ref a] ∧ SqL K H g (gs.map V.str) ∧ gs.Nodup ∧ gs.length ≤ 3 ∧ SqL K H a (us.map V.int) ∧ us.length ≤ 5 ∧
  RetP (fun v H' => ∃ (rs : List (Addr × List Int)) (old new : List Int), IsL (rs.map fun z => V.ref z.1) v H' ∧ (∀ z ∈ rs, H' z.1 = some (.dK (dRow gs z.2))) ∧ rs.map (·.2) = (kindsN old new gs.length).map (·.1) ∧
    old.Perm us ∧ new.Nodup ∧ new.length = gs.length ∧ (∀ x ∈ new, x ∉ us)) H Q
section
variable {P : Program} {w : World} {K : PySem.W.Frag} {mg : Str → Option Value} {base : Heap} {c : Cl} {f : Addr} {fd : FuncData}
theorem scKinds : FnScope ["gaps", "values", "old", "new", "found", "gap", "longer", "filling", "used", "k", "value", "more"] ["gaps", "values"] (defScope sKinds) := ⟨rfl, rfl, rfl, by decide +kernel, rfl, by decide +kernel, by decide +kernel⟩
theorem ok_kinds {tk : Tok} (F : Fun K "kinds" "kinds" sKinds f fd) (T : Txt K mg c) (mM : mg "MOST" = some (.int 1000 tk)) (GB : Def P w K mg base 1 "bound" ["gaps", "values"] spBound) (GF : Def P w K mg base 1 "fresh" ["values", "many"] (spFresh K)) :
    FnOk P w K mg base CX0 2 f fd ["gaps", "values"] (spKinds K) := by
  obtain ⟨f1, fd1, G1, m1, k1, b1⟩ := GB
  obtain ⟨f2, fd2, G2, m2, k2, b2⟩ := GF
  refine F.ok scKinds (fun vs H Q E h => ?_) (fun cdv A outer s H vs Q E hr h => ?_)
  · obtain ⟨g, a, gs, us, rfl, _⟩ := h
    rfl
  · obtain ⟨g, a, gs, us, rfl, hG, nd, g3, hU, u5, kq⟩ := h
    have hu := hu_of hr
    refine ⟨_, pss_cons (ps_if (pt_cmpR op_gt (pe_call G1 hr (by rfl) m1 k1 b1 .nil pass0 (pa_cons (pe_callB call_len_seq (by rfl) T.fLen PySem.boot_len (pa_cons (pv 0) pa_nil)) (pa_cons (pe_callB call_len_seq (by rfl) T.fLen PySem.boot_len (pa_cons (pv 1) pa_nil)) pa_nil)))
        (pe_glob (v := .int 1000) (by rfl) mM ⟨_, rfl⟩) (nomark _)) (pss_one ps_never) pss_nil)
      (pss_cons (ps_set (i := 2) scKinds.nd rfl (Or.inl rfl) (pe_callB cr_sorted (by rfl) T.fSorted (by decide +kernel) (pa_cons (pv 1) pa_nil)))
      (pss_cons (ps_set (i := 3) scKinds.nd rfl (Or.inl rfl) (pe_call G2 hr (by rfl) m2 k2 b2 .nil pass0 (pa_cons (pv 1) (pa_cons (pe_callB call_len_seq (by rfl) T.fLen PySem.boot_len (pa_cons (pv 0) pa_nil)) pa_nil))))
      (pss_cons (ps_set (i := 4) scKinds.nd rfl (Or.inl rfl) (pe_lst (pa_cons (pe_tup (pa_cons pe_dnewK (pa_cons pe_int pa_nil))) pa_nil)))
      (pss_cons (ps_for PassesOwn.never rfl (pi_list (pv 0)) (pg_name (i := 5) scKinds.nd rfl (Or.inl rfl))
        (pss_cons (ps_set (i := 6) scKinds.nd rfl (Or.inl rfl) (pe_lst pa_nil))
        (pss_cons (ps_for PassesOwn.never rfl (pi_list (pv 4)) (pg_tup rfl (pgs_cons (pg_name (i := 7) scKinds.nd rfl (Or.inl rfl)) (pgs_cons (pg_name (i := 8) scKinds.nd rfl (Or.inl rfl)) pgs_nil)))
          (pss_one (ps_for PassesOwn.never rfl (pi_enum (by rfl) T.fEnum (pa_cons (pe_op op_cat (pv 2) (pe_slice sl_list (pv 3) po_none (po_some (pe_op op_add (pv 8) pe_int)))) pa_nil))
            (pg_tup rfl (pgs_cons (pg_name (i := 9) scKinds.nd rfl (Or.inl rfl)) (pgs_cons (pg_name (i := 10) scKinds.nd rfl (Or.inl rfl)) pgs_nil)))
            (pss_cons (ps_set (i := 11) scKinds.nd rfl (Or.inl rfl) (pe_callTy call_dictD (by rfl) T.fDict (by decide +kernel) (pa_cons (pv 7) pa_nil)))
            (pss_cons (ps_dput hu (pv 11) (pv 5) (pv 10) rfl)
            (pss_one (ps_expr (pe_bm PySem.F.plainAttrs_list PySem.F.slot_list_append PySem.F.type_list_append mt_append (pv 6) (pa_cons (pe_tup (pa_cons (pv 11) (pa_cons (pe_callB (call_max2 rfl) (by rfl) T.fMax (by decide +kernel)
              (pa_cons (pv 8) (pa_cons (pe_op op_sub (pe_op op_add (pv 9) pe_int) (pe_callB call_len_seq (by rfl) T.fLen PySem.boot_len (pa_cons (pv 2) pa_nil))) pa_nil))) pa_nil))) pa_nil)))))))))
        (pss_one (ps_set (i := 4) scKinds.nd rfl (Or.inl rfl) (pv 6))))))
      (pss_one (ps_ret (pe_lc (own := [("filling", 7), ("used", 8)]) (g := gTup K 2 (gCons (gName 7) (gCons (gName 8) gNil))) (tt := tYes) rfl scKinds.nd (pi_list (pv 4)) (blkOk_by (own := [("filling", 7), ("used", 8)]) (N := ["gaps", "values", "old", "new", "found", "gap", "longer", "filling", "used", "k", "value", "more"]) (sc := defScope sKinds) (by decide +kernel))
        (fun _ _ _ _ _ => pg_tup rfl (pgs_cons (pg_name (i := 7) scKinds.nd rfl (Or.inl rfl)) (pgs_cons (pg_name (i := 8) scKinds.nd rfl (Or.inl rfl)) pgs_nil))) (fun _ _ _ _ _ => pts_nil) (fun _ _ _ _ _ => pv 7)))))))), ?_⟩
    have line : ∀ {n : Nat}, n ≤ 1000 → n ≤ sizeLine := fun h => Nat.le_of_lt (small1000 h)
    refine ⟨_, rfl, g, _, rfl, .inl hG, _, rfl, a, _, rfl, .inl hU, gs.length, us.length, (by rw [List.length_map, List.length_map]; rfl), g3, u5, ?_⟩
    rintro v H0 e0 ⟨z, rfl, hz⟩
    refine ⟨z, 1000, rfl, rfl, _, rfl, ?_⟩
    rw [decide_eq_false (Int.not_lt.mpr hz)]
    refine iteF ⟨_, rfl, a, us, rfl, ex_l e0 hU, (by omega), fun old o pm _ ho => ?_⟩
    have eo : Ex H0 (upd H0 o (.lst (old.map V.int))) := Ex.new ho
    refine ⟨_, rfl, _, rfl, g, _, rfl, .inl (ex_l (e0.trans eo) hG), a, us, gs.length, (by rw [List.length_map]; rfl), ex_l (e0.trans eo) hU, (by omega), g3, ?_⟩
    rintro v H1 e1 ⟨new, ⟨n, rfl, hn⟩, nnd, nlen, nout⟩
    have E1 : Ex H H1 := (e0.trans eo).trans e1
    have hO : H1 o = some (.lst (old.map V.int)) := e1 _ _ upd_same
    have ol : old.length ≤ 5 := by rw [pm.length_eq]; exact u5
    intro d0 hd0
    refine ⟨by show 2 ≤ sizeLine; decide, fun t0 ht0 => ⟨by show 1 ≤ sizeLine; decide, fun l0 hl0 => ?_⟩⟩
    have Ed := Ex.new (o := .dK []) hd0
    have Et := Ex.new (o := .tup [.ref d0, .int 0]) ht0
    have El := Ex.new (o := .lst [.ref t0]) hl0
    have E2 := (E1.trans Ed).trans (Et.trans El)
    have hO2 := El _ _ (Et _ _ (Ed _ _ hO))
    have hN2 := El _ _ (Et _ _ (Ed _ _ hn))
    -- for gap in gaps
    refine ⟨_, rfl, g, rfl, ⟨_, ex_l E2 hG⟩, for_list (K := K) (a := g) (xs := gs.map V.str) (fun i σ H3 => ∃ (l : Addr) (v5 v6 v7 v8 v9 v10 v11 : Option V),
        σ = [some (.ref g), some (.ref a), some (.ref o), some (.ref n), some (.ref l), v5, v6, v7, v8, v9, v10, v11] ∧ Ex H H3 ∧ H3 o = some (.lst (old.map V.int)) ∧ H3 n = some (.lst (new.map V.int)) ∧ KS (gs.take i) H3 l (kindsN old new i))
      ⟨l0, none, none, none, none, none, none, none, rfl, E2, hO2, hN2, [(t0, d0, ([], 0))], upd_same, fun z hz => ?_, rfl⟩ (fun i σ H3 _ ⟨_, _, _, _, _, _, _, _, _, e, _⟩ => ex_l e hG) ?_ ?_⟩
    · rw [List.mem_singleton.mp hz]
      exact ⟨El _ _ upd_same, El _ _ (Et _ _ upd_same)⟩
    · rintro i x σ H3 hi ⟨l, v5, v6, v7, v8, v9, v10, v11, rfl, e3, o3, n3, ks3⟩
      rw [List.getElem?_map] at hi
      cases hgi : gs[i]? with
      | none => rw [hgi] at hi; cases hi
      | some gp =>
        rw [hgi] at hi
        have ex := Option.some.inj hi
        subst ex
        have hil : i < gs.length := (List.getElem?_eq_some_iff.mp hgi).1
        have tk1 : gs.take (i + 1) = gs.take i ++ [gp] := by rw [List.take_add_one, hgi]; rfl
        have tkl : (gs.take i).length = i := by rw [List.length_take]; omega
        have gno : gp ∉ gs.take i := fun hm => by
          obtain ⟨j, hj, ej⟩ := of_take hm
          obtain ⟨l1, q1⟩ := List.getElem?_eq_some_iff.mp ej
          obtain ⟨l2, q2⟩ := List.getElem?_eq_some_iff.mp hgi
          have := (List.getElem_inj nd).mp (q1.trans q2.symm)
          omega
        refine ⟨Nat.zero_le _, fun m hm => ?_⟩
        have Em := Ex.new (o := .lst []) hm
        obtain ⟨zs, z1, z2, z3⟩ := id ks3
        have zlen : zs.length = (kindsN old new i).length := by rw [← z3, List.length_map]
        -- for filling, used in found
        refine ⟨_, rfl, l, rfl, ⟨_, sq_of (Em _ _ z1)⟩, for_list (K := K) (a := l) (xs := zs.map fun z => V.ref z.1) (fun j σ H4 => ∃ (v7 v8 v9 v10 v11 : Option V),
            σ = [some (.ref g), some (.ref a), some (.ref o), some (.ref n), some (.ref l), some (.str gp), some (.ref m), v7, v8, v9, v10, v11] ∧ Ex H3 H4 ∧ KS (gs.take (i + 1)) H4 m (((kindsN old new i).take j).flatMap (opts old new)))
          ⟨v7, v8, v9, v10, v11, rfl, Em, [], upd_same, (fun z hz => by cases hz), rfl⟩ (fun j σ H4 _ ⟨_, _, _, _, _, _, e, _⟩ => sq_of (e _ _ z1)) ?_ ?_⟩
        · rintro j y σ H4 hj ⟨v7, v8, v9, v10, v11, rfl, e4, ks4⟩
          rw [List.getElem?_map] at hj
          cases hzj : zs[j]? with
          | none => rw [hzj] at hj; cases hj
          | some z =>
            rw [hzj] at hj
            have ey := Option.some.inj hj
            subst ey
            obtain ⟨t, dd, p⟩ := z
            obtain ⟨q1, q2⟩ := z2 _ (List.mem_of_getElem? hzj)
            have hkj : (kindsN old new i)[j]? = some p := by rw [← z3, List.getElem?_map, hzj]; rfl
            have hkm := List.mem_of_getElem? hkj
            have KP := kinds_ok old new i p hkm
            refine ⟨t, _, rfl, Or.inl (Or.inl (e4 _ _ q1)), rfl, _, _, rfl, _, _, rfl, rfl, ?_⟩
            -- old + new[:used + 1]
            refine ⟨_, rfl, _, rfl, _, rfl, _, _, rfl, rfl, _, rfl, n, _, rfl, SqL.of (e4 _ _ n3), fun c1 hc1 => ?_⟩
            have Ec := Ex.new (o := .lst (cutV (new.map V.int) none (some ((p.2 : Int) + 1)))) hc1
            have ecut : cutV (new.map V.int) none (some ((p.2 : Int) + 1)) = (new.take (p.2 + 1)).map V.int := by
              have e1 : ((p.2 : Int) + 1) = ((p.2 + 1 : Nat) : Int) := by omega
              unfold cutV
              rw [e1, HT.sIx_none, HT.sIx_nat, Nat.sub_zero, List.drop_zero, List.length_map, ← List.map_take, ← List.take_eq_take_min]
            refine ⟨o, c1, _, _, rfl, rfl, Ec _ _ (e4 _ _ o3), upd_same, line ?_, fun c2 hc2 => ?_⟩
            · rw [ecut, List.length_map, List.length_map, List.length_take]
              omega
            · rw [ecut, ← List.map_append]
              have hc2' : (upd H4 c1 (.lst ((new.take (p.2 + 1)).map V.int))) c2 = none := by
                rw [← ecut]
                exact hc2
              rw [ecut] at Ec
              have Ec2 := Ex.new (o := .lst ((old ++ new.take (p.2 + 1)).map V.int)) hc2'
              have e5 : Ex H4 _ := Ec.trans Ec2
              refine ⟨c2, _, rfl, SqL.of upd_same, for_it walk_enum (fun q σ H5 => ∃ (v9 v10 v11 : Option V),
                  σ = [some (.ref g), some (.ref a), some (.ref o), some (.ref n), some (.ref l), some (.str gp), some (.ref m), some (.ref dd), some (.int p.2), v9, v10, v11] ∧ Ex H3 H5 ∧ H5 c2 = some (.lst ((old ++ new.take (p.2 + 1)).map V.int)) ∧
                    KS (gs.take (i + 1)) H5 m (((kindsN old new i).take j).flatMap (opts old new) ++ (opts old new p).take q))
                ⟨v9, v10, v11, rfl, e4.trans (Ec.trans Ec2), upd_same, by rw [List.take_zero, List.append_nil]; exact ks4.ex e5⟩ (fun q σ H5 _ ⟨_, _, _, _, _, h, _⟩ => sq_of h) ?_ ?_⟩
              · rintro q y σ H5 H6 hq ⟨v9, v10, v11, rfl, e6, h6, ks6⟩ ⟨T0, y1, y2, rfl, hT0, rfl, hy1, hy2⟩
                have hy1 := Option.some.inj hy1
                subst hy1
                have hy2 : ((old ++ new.take (p.2 + 1)).map V.int)[q]? = some y2 := hy2
                rw [List.getElem?_map] at hy2
                cases hv : (old ++ new.take (p.2 + 1))[q]? with
                | none => rw [hv] at hy2; cases hy2
                | some val =>
                  rw [hv] at hy2
                  have hy2 := Option.some.inj hy2
                  subst hy2
                  have ET := Ex.new (o := .tup [.int (q : Int), .int val]) hT0
                  refine ⟨T0, _, rfl, SqT.of upd_same, rfl, _, _, rfl, _, _, rfl, rfl, ?_⟩
                  -- more = dict(filling)
                  refine ⟨_, rfl, dd, _, rfl, .inl (ET _ _ (e6 _ _ q2)), fun b hb => ?_⟩
                  refine ⟨_, rfl, _, rfl, _, rfl, b, _, rfl, DPut.k (k := Sum.inr gp) upd_same (small1000 ?_), ?_⟩
                  · rw [dRow_len (by rw [tkl]; exact KP.len.symm), tkl]
                    omega
                  · rw [upd_upd, putK_new _ (dRow_no gno), ← dRow_snoc (by rw [tkl]; exact KP.len.symm), ← tk1]
                    have Eb := Ex.new (o := .dK (dRow (gs.take (i + 1)) (p.1 ++ [val]))) hb
                    have e7 : Ex H5 _ := ET.trans Eb
                    obtain ⟨ws, w1, w2, w3⟩ := id (ks6.ex e7)
                    refine ⟨_, rfl, .inl ⟨rfl, _, SqL.of w1⟩, _, rfl, _, rfl, _, rfl, _, _, rfl, rfl, _, rfl, o, _, rfl, .inl (SqL.of ((e6.trans e7) _ _ o3)), _, _, rfl, rfl, _, _, rfl, ?_⟩
                    rw [List.length_map, max_int]
                    refine ⟨by show 2 ≤ sizeLine; decide, fun t2 ht2 => ?_⟩
                    have Et2 := Ex.new (o := .tup [.ref b, .int ((max p.2 (q + 1 - old.length) : Nat) : Int)]) ht2
                    refine ⟨m, _, _, rfl, rfl, Et2 _ _ w1, ?_, ?_⟩
                    · have fl := congrArg List.length w3
                      have k1 := kinds_few ol (by omega : new.length ≤ 3) (i + 1) (by omega)
                      have k2 := pow8 (n := i + 1) (by omega)
                      have k3 : (((kindsN old new i).take j).flatMap (opts old new) ++ (opts old new p).take q).length ≤ (kindsN old new (i + 1)).length := by
                        show _ ≤ ((kindsN old new i).flatMap (opts old new)).length
                        conv => rhs; rw [← List.take_append_drop j (kindsN old new i), List.flatMap_append, List.length_append]
                        rw [List.length_append]
                        refine Nat.add_le_add_left ?_ _
                        have hd : (kindsN old new i).drop j = p :: (kindsN old new i).drop (j + 1) := by
                          obtain ⟨lj, ej⟩ := List.getElem?_eq_some_iff.mp hkj
                          rw [← ej]
                          exact List.drop_eq_getElem_cons lj
                        rw [hd, List.flatMap_cons, List.length_append, List.length_take]
                        omega
                      rw [List.length_map] at fl
                      rw [List.length_map]
                      exact small1000 (by omega)
                    · refine ⟨_, _, _, rfl, ?_, ?_, ?_⟩
                      · have mno : H3 m = none := hm
                        exact ((e6.trans e7).trans Et2).mut mno
                      · have nm : c2 ≠ m := by
                          intro z
                          rw [z] at h6
                          have h7 := e7 _ _ h6
                          rw [w1] at h7
                          have mm : H4 m ≠ none := by
                            obtain ⟨ws', w1', _⟩ := ks4
                            rw [w1']
                            exact fun z => by cases z
                          have : (upd H4 c1 (.lst ((new.take (p.2 + 1)).map V.int))) m = none := z ▸ hc2'
                          exact mm (Evl.fresh_back Ec this)
                        rw [upd_ne nm]
                        exact Et2 _ _ (e7 _ _ h6)
                      · have tq : (opts old new p).take (q + 1) = (opts old new p).take q ++ [(p.1 ++ [val], max p.2 (q + 1 - old.length))] := by
                          rw [List.take_add_one, opts_at hv]
                          rfl
                        rw [tq, ← List.append_assoc]
                        exact ((ks6.ex e7).ex Et2).snoc upd_same (Et2 _ _ upd_same) (Et2 _ _ w1)
              · rintro σ H5 ⟨v9, v10, v11, rfl, e6, h6, ks6⟩
                refine ⟨_, _, _, _, _, rfl, e6, ?_⟩
                have fin : (opts old new p).take ((old ++ new.take (p.2 + 1)).map V.int).length = opts old new p := by
                  refine List.take_of_length_le ?_
                  rw [opts_len, List.length_map]
                  exact Nat.le_refl _
                rw [fin] at ks6
                have tj : (kindsN old new i).take (j + 1) = (kindsN old new i).take j ++ [p] := by rw [List.take_add_one, hkj, Option.toList_some]
                rw [tj, List.flatMap_append, List.flatMap_singleton]
                exact ks6
        · rintro σ H4 ⟨v7, v8, v9, v10, v11, rfl, e4, ks4⟩
          have fin : (kindsN old new i).take (zs.map fun z => V.ref z.1).length = kindsN old new i := List.take_of_length_le (by rw [List.length_map, zlen]; exact Nat.le_refl _)
          rw [fin] at ks4
          exact ⟨_, rfl, m, _, _, _, _, _, _, _, rfl, e3.trans e4, e4 _ _ o3, e4 _ _ n3, ks4⟩
    · rintro σ H3 ⟨l, v5, v6, v7, v8, v9, v10, v11, rfl, e3, o3, n3, ks3⟩
      rw [List.length_map, List.take_length] at ks3
      obtain ⟨zs, z1, z2, z3⟩ := ks3
      have zl : zs.length ≤ 512 := by
        have q := congrArg List.length z3
        rw [List.length_map] at q
        have k1 := kinds_few ol (by omega : new.length ≤ 3) gs.length g3
        have k2 := pow8 g3
        omega
      refine ⟨_, rfl, l, rfl, ⟨_, sq_of z1⟩, fun D hD => ?_⟩
      refine lc_list (K := K) (a := l) (xs := zs.map fun z => V.ref z.1) (fun i H4 => Ex H3 H4 ∧ H4 D = some (.lst ((zs.take i).map fun z => V.ref z.2.1))) ⟨Ex.new hD, upd_same⟩ (fun i H4 _ p => sq_of (p.1 _ _ z1)) ?_ ?_
      · rintro i x H4 hi ⟨e4, h4⟩
        rw [List.getElem?_map] at hi
        cases hz : zs[i]? with
        | none => rw [hz] at hi; cases hi
        | some z =>
          rw [hz] at hi
          have ex := Option.some.inj hi
          subst ex
          obtain ⟨q1, q2⟩ := z2 z (List.mem_of_getElem? hz)
          refine ⟨z.1, _, rfl, Or.inl (Or.inl (e4 _ _ q1)), rfl, _, _, rfl, _, _, rfl, rfl, rfl, ?_⟩
          unfold tYes
          dsimp only
          rw [if_pos rfl]
          refine ⟨_, rfl, _, h4, small1000 (by rw [List.length_map, List.length_take]; omega), e4.mut hD, ?_⟩
          rw [upd_same, List.take_add_one, hz, Option.toList_some, List.map_append]
          rfl
      · rintro H4 ⟨e4, h4⟩
        rw [List.length_map, List.take_length] at h4
        refine kq _ H4 (e3.trans e4) ⟨zs.map fun z => (z.2.1, z.2.2.1), old, new, ⟨D, rfl, ?_⟩, fun z hz => ?_, ?_, pm, nnd, nlen, nout⟩
        · rw [List.map_map]
          exact h4
        · obtain ⟨z', hz', rfl⟩ := List.mem_map.mp hz
          exact e4 _ _ (z2 z' hz').2
        · rw [← z3, List.map_map, List.map_map]
          rfl
end
end K17
/-! The stack of conditions and how it grows. -/
namespace K17
open PySem PySem.Spec PyProof.Rows L2 Evl
/-! ### makers, pushes, as values by a property -/
section
variable {K : PySem.W.Frag} {σ : L2.St} {H : Hp} {te td tx tl : TE} {ta : TA}
theorem made_ex {H1 : Hp} {x dx : Addr} {o : HO} (hx : H1 x = none) (hd : H1 dx = none) (ne : dx ≠ x) : Ex H1 (upd (upd H1 dx (.own x)) x o) :=
  (Ex.new hd).trans (Ex.new (by rw [upd_ne (Ne.symm ne)]; exact hx))
theorem evp_make {C : Addr} {n : Nat} {fs : List V → List (Str × V)} {us : List V} {E : XK} (ht : EvA ta σ H us) (hl : us.length = n) :
    EvP (tMake C (spMade C n (fun _ _ => True) fs) [] E ta) σ H fun v H' => ∃ x dx, v = .ref x ∧ H' x = some (.ins C dx (fs us)) := by
  intro H1 e1 Q q
  refine ht H1 e1 _ fun H2 e2 => fun x dx hx hd ne => ?_
  refine ⟨x, dx, us, by rw [List.append_nil], hl, upd_same, trivial, rfl, ?_⟩
  rw [upd_upd]
  exact q _ _ (e2.trans (made_ex hx hd ne)) ⟨x, dx, rfl, upd_same⟩
theorem evp_makeV {C : Addr} {xs : List V} {E : XK} (h : EvL te σ H xs) :
    EvP (tMake C (spVMade K C) [] E (tCons te tNil)) σ H fun v H' => ∃ x dx t, v = .ref x ∧ H' x = some (.ins C dx (fsV t)) ∧ H' t = some (.tup xs) := by
  intro H1 e1 Q q
  refine h H1 e1 _ fun l H2 hl e2 h2 => fun x dx hx hd ne => ?_
  have E0 : Ex H2 (upd (upd H2 dx (.own x)) x (.ins C dx [])) := made_ex hx hd ne
  refine ⟨x, dx, l, xs, rfl, upd_same, sq_of (E0 _ _ h2), fun t ht => ⟨rfl, ?_⟩⟩
  have nt : t ≠ x := fun z => by
    rw [z, upd_same] at ht
    cases ht
  have nd : t ≠ dx := fun z => by
    rw [z, upd_ne ne, upd_same] at ht
    cases ht
  have E1 : Ex H2 (upd (upd (upd (upd H2 dx (.own x)) x (.ins C dx [])) t (.tup xs)) x (.ins C dx (fsV t))) := by
    intro b o hb
    have n1 : b ≠ x := ne_of_none hb hx
    rw [upd_ne n1]
    exact (Ex.new ht) b o (E0 b o hb)
  exact q _ _ (e2.trans E1) ⟨x, dx, t, rfl, upd_same, by rw [upd_ne nt, upd_same]⟩
/-- xs + [(k, x)] -/
theorem evp_push {xs : List V} {k : Int} {Px : V → Hp → Prop} (hl : EvP tl σ H (IsL xs)) (hd : Ev td σ H (.int k)) (hx : EvP tx σ H Px) (mono : ∀ v H1 H2, Ex H1 H2 → Px v H1 → Px v H2) (hz : xs.length ≤ 999) :
    EvP (tOp rCat tl (tLst (tCons (tTup (tCons td (tCons tx tNil))) tNil))) σ H fun v H' => ∃ l t x, v = .ref l ∧ H' l = some (.lst (xs ++ [.ref t])) ∧ H' t = some (.tup [.int k, x]) ∧ Px x H' := by
  intro H1 e1 Q q
  refine hl H1 e1 _ fun v H2 e2 ⟨l1, ev, h2⟩ => ?_
  subst ev
  refine hd H2 (e1.trans e2) _ fun H3 e3 => hx H3 ((e1.trans e2).trans e3) _ fun x H4 e4 px => ?_
  refine ⟨by show 2 ≤ sizeLine; decide, fun t ht => ⟨by show 1 ≤ sizeLine; decide, fun l2 hl2 => ?_⟩⟩
  have Et := Ex.new (o := .tup [.int k, x]) ht
  have El := Ex.new (o := .lst [.ref t]) hl2
  refine ⟨l1, l2, xs, [.ref t], rfl, rfl, El _ _ (Et _ _ (e4 _ _ (e3 _ _ h2))), upd_same, Nat.le_of_lt (small1000 (by rw [List.length_singleton]; omega)), fun l hl => ?_⟩
  have E5 := Ex.new (o := .lst (xs ++ [.ref t])) hl
  exact q _ _ ((((e2.trans e3).trans e4).trans (Et.trans El)).trans E5) ⟨l, t, x, rfl, upd_same, E5 _ _ (El _ _ upd_same), mono _ _ _ ((Et.trans El).trans E5) px⟩
theorem evp_isL {xs : List V} (h : EvL te σ H xs) : EvP te σ H (IsL xs) := evp_list h
theorem evp_at {xs : List V} {a : Addr} (h : Ev te σ H (.ref a)) (ha : H a = some (.lst xs)) : EvP te σ H (IsL xs) := evp_of h fun H1 e => ⟨a, rfl, e _ _ ha⟩
/-- xs == [] -/
theorem et_nil {xs : List V} {a : Addr} (h : Ev te σ H (.ref a)) (ha : SqL K H a xs) : EvT (tTest (tOp (rEqNil K) te (tLst tNil))) σ H xs.isEmpty := by
  intro H1 e1 Q q
  refine h H1 e1 _ fun H2 e2 => ⟨Nat.zero_le _, fun l hl => ?_⟩
  have E := Ex.new (o := .lst []) hl
  exact ⟨a, l, xs, rfl, rfl, ex_l ((e1.trans e2).trans E) ha, sq_of upd_same, _, rfl, q _ (e2.trans E)⟩
/-- max(xs, default=n) -/
theorem evp_maxD {ns : List Int} {n : Int} (h : EvL tl σ H (ns.map V.int)) (hn : Ev td σ H (.int n)) :
    EvP (tCKw (rMaxDf K) (tCons tl tNil) (tCons td tNil)) σ H fun v _ => ∃ m : Int, v = .int m ∧ (∀ y ∈ ns, y ≤ m) ∧ (m = n ∨ m ∈ ns) := by
  intro H1 e1 Q q
  refine h H1 e1 _ fun l H2 _ e2 h2 => hn H2 (e1.trans e2) _ fun H3 e3 => ⟨l, ns, n, rfl, rfl, sq_of (e3 _ _ h2), fun e => ?_, fun m hm hle => ?_⟩
  · exact q _ H3 (e2.trans e3) ⟨n, rfl, (fun y hy => by rw [e] at hy; cases hy), .inl rfl⟩
  · exact q _ H3 (e2.trans e3) ⟨m, rfl, hle, .inr hm⟩
end
/-! ### the stack -/
abbrev Wk := Addr × Nat × Cn
structure WAt (c : Cl) (pool : List V) (H : Hp) (z : Wk) : Prop where
  tup : H z.1 = some (.tup [.int z.2.1, .ref z.2.2.a])
  cond : CondN c H z.2.1 z.2.2
  deep : 1 ≤ z.2.1 ∧ z.2.1 ≤ 18
  sub : ∀ y ∈ z.2.2.cs, y ∈ pool
theorem WAt.ex {c : Cl} {pool : List V} {H H' : Hp} {z : Wk} (e : Ex H H') (h : WAt c pool H z) : WAt c pool H' z := ⟨e _ _ h.tup, h.cond.ex e, h.deep, h.sub⟩
def tot (zs : List Wk) : Nat := (zs.map fun z => z.2.2.cs.length).sum
theorem tot_append (a b : List Wk) : tot (a ++ b) = tot a + tot b := by
  unfold tot
  rw [List.map_append, List.sum_append]
theorem tot_one (z : Wk) : tot [z] = z.2.2.cs.length := by
  unfold tot
  simp
theorem tot_flat : ∀ zs : List Wk, ((zs.map fun z => z.2.2).flatMap (·.cs)).length = tot zs
  | [] => rfl
  | z :: zs => by
    rw [List.map_cons, List.flatMap_cons, List.length_append, tot_flat zs]
    unfold tot
    rw [List.map_cons, List.sum_cons]
structure SK (c : Cl) (pool : List V) (H : Hp) (l : Addr) (zs : List Wk) : Prop where
  lst : H l = some (.lst (zs.map fun z => V.ref z.1))
  all : ∀ z ∈ zs, WAt c pool H z
theorem SK.ex {c : Cl} {pool : List V} {H H' : Hp} {l : Addr} {zs : List Wk} (e : Ex H H') (h : SK c pool H l zs) : SK c pool H' l zs := ⟨e _ _ h.lst, fun z hz => (h.all z hz).ex e⟩
def Grew (c : Cl) (pool : List V) (zs : List Wk) (v : V) (H : Hp) : Prop := ∃ l zs', v = .ref l ∧ SK c pool H l zs' ∧ zs'.length ≤ zs.length + 1 ∧ tot zs' ≤ tot zs + 2
def spGrown (K : PySem.W.Frag) (c : Cl) : Sp := fun vs H Q _ => ∃ (s p : Addr) (i : Int) (zs : List Wk) (pool : List V), vs = [.ref s, .int i, .ref p] ∧ SK c pool H s zs ∧ zs.length ≤ 40 ∧ tot zs ≤ 90 ∧
  SqL K H p pool ∧ pool ≠ [] ∧ (∀ y ∈ pool, CellV y) ∧ RetP (Grew c pool zs) H Q
/-- the pushed one, put to the stack -/
theorem grew_of {c : Cl} {pool : List V} {zs pre : List Wk} {H H' : Hp} {l t : Addr} {k : Nat} {d : Cn} (e : Ex H H') (hpre : ∀ z ∈ pre, WAt c pool H z) (hl : H' l = some (.lst (pre.map (fun z => V.ref z.1) ++ [.ref t])))
    (ht : H' t = some (.tup [.int k, .ref d.a])) (hd : CondN c H' k d) (hk : 1 ≤ k ∧ k ≤ 18) (hs : ∀ y ∈ d.cs, y ∈ pool) (h1 : pre.length ≤ zs.length) (h2 : tot pre + d.cs.length ≤ tot zs + 2) : Grew c pool zs (.ref l) H' := by
  refine ⟨l, pre ++ [(t, k, d)], rfl, ⟨?_, fun z hz => ?_⟩, ?_, ?_⟩
  · rw [List.map_append]
    exact hl
  · rcases List.mem_append.mp hz with m | m
    · exact (hpre z m).ex e
    · rw [List.mem_singleton.mp m]
      exact ⟨ht, hd, hk, hs⟩
  · rw [List.length_append, List.length_singleton]
    omega
  · rw [tot_append, tot_one]
    exact h2
/-- a comprehension over the parts: their depths, their conditions -/
theorem el_part {K : PySem.W.Frag} {c : Cl} {pool : List V} {H : Hp} {l : Addr} {zs : List Wk} {σ : L2.St} (hv : σ[5]? = some (some (.ref l))) (hw : ∀ x, wipe ((wipe σ [7]).set 7 (some x)) [7] = wipe σ [7]) (h7 : ∀ x, ((wipe σ [7]).set 7 (some x))[7]? = some (some x))
    (hl : H l = some (.lst (zs.map fun z => V.ref z.1))) (ha : ∀ z ∈ zs, WAt c pool H z) (hz : zs.length ≤ 1000) (j : Nat) (u : Wk → V) (hj : ∀ z, ([V.int z.2.1, V.ref z.2.2.a] : List V)[j]? = some (u z)) :
    EvL (tLc (iList K (tVar 5)) (gName 7) tYes (tOp (rIxT K) (tVar 7) (tC (.int (j : Int)))) [7]) σ H (zs.map u) := by
  have q := el_lcL (K := K) (σ := σ) (H := H) (t := tYes) (te := tOp (rIxT K) (tVar 7) (tC (.int (j : Int)))) (j := 7) (vs := [7]) (tl := tVar 5) (fun _ => true) (fun i => match zs[i]? with | some z => u z | none => .non)
    (ev_var hv) (sq_of hl) (by rw [List.length_map]; omega) hw (fun _ _ _ _ _ => et_yes) fun i x H1 e1 hi _ => ?_
  · rw [List.length_map, given_map zs u _ (fun i z hz => by rw [hz])] at q
    exact q
  · rw [List.getElem?_map] at hi
    cases hp : zs[i]? with
    | none => rw [hp] at hi; cases hi
    | some z =>
      rw [hp] at hi
      have ex := Option.some.inj hi
      subst ex
      exact ev_op (ev_var (h7 _)) ev_c (rv_ixT (st_of (e1 _ _ (ha z (List.mem_of_getElem? hp)).tup)) (atI_nat (hj z)))
end K17
/-! One more cell: the stack grows. -/
namespace K17
open PySem PySem.Spec PyProof.Rows L2 Evl
theorem evp_add {σ : L2.St} {H : Hp} {tb : TE} {n : Int} {R : Int → Prop} (h : EvP tb σ H fun v _ => ∃ m : Int, v = .int m ∧ R m) : EvP (tOp (rI0 fun i j => .int (i + j)) (tC (.int n)) tb) σ H fun v _ => ∃ m : Int, v = .int (n + m) ∧ R m := by
  intro H1 e1 Q q
  refine h H1 e1 _ fun v H2 e2 ⟨m, ev, r⟩ => ?_
  subst ev
  exact ⟨n, m, rfl, rfl, q _ H2 e2 ⟨m, rfl, r⟩⟩
section
variable {P : Program} {w : World} {K : PySem.W.Frag} {mg : Str → Option Value} {base : Heap} {c : Cl} {f : Addr} {fd : FuncData}
/-- the makers of the five classes -/
structure Makers (P : Program) (w : World) (K : PySem.W.Frag) (mg : Str → Option Value) (base : Heap) (c : Cl) : Prop where
  t : Maker P w K mg base 1 c.T "Truth" ["self", "said"] (spMade c.T 1 (fun _ _ => True) fun us => putF "said" (us.getD 0 .non) [])
  s : Maker P w K mg base 1 c.S "Same" ["self", "one", "other"] (spMade c.S 2 (fun _ _ => True) fun us => fsS (us.getD 0 .non) (us.getD 1 .non))
  a : Maker P w K mg base 1 c.A "AllOf" ["self", "parts"] (spVMade K c.A)
  o : Maker P w K mg base 1 c.O "OneOf" ["self", "parts"] (spVMade K c.O)
  p : Maker P w K mg base 1 c.P "Opposite" ["self", "part"] (spMade c.P 1 (fun _ _ => True) fun us => putF "part" (us.getD 0 .non) [])
abbrev nGrown : List Str := ["_law_stack", "_law_cell", "_law_pool", "_law_way", "_law_many", "_law_parts", "_law_deep", "_law_part"]
theorem scGrown : FnScope nGrown ["_law_stack", "_law_cell", "_law_pool"] (defScope sGrown) := ⟨rfl, rfl, rfl, by decide +kernel, rfl, by decide +kernel, by decide +kernel⟩
theorem max0 (n m : Int) (hn : 0 ≤ n) (hm : 1 ≤ m) : ∃ a : Nat, (if (n - m) > (0 : Int) then (n - m) else (0 : Int)) = (a : Int) ∧ (a : Int) ≤ n ∧ ((0 : Int) < n → (a : Int) < n) := by
  by_cases h : (n - m) > 0
  · rw [if_pos h]
    exact ⟨(n - m).toNat, by omega, by omega, fun _ => by omega⟩
  · rw [if_neg h]
    exact ⟨0, rfl, hn, fun h => h⟩
theorem cut_drop (xs : List V) (a : Nat) (h : a ≤ xs.length) : cutV xs (some (a : Int)) none = xs.drop a := by
  unfold cutV
  rw [HT.sIx_nat, HT.sIx_none, Nat.min_eq_left h]
  exact List.take_of_length_le (by rw [List.length_drop]; exact Nat.le_refl _)
theorem cut_take (xs : List V) (a : Nat) : cutV xs none (some (a : Int)) = xs.take a := by
  unfold cutV
  rw [HT.sIx_nat, HT.sIx_none, Nat.sub_zero, List.drop_zero, ← List.take_eq_take_min]
theorem cut_last (xs : List V) : cutV xs none (some (-1)) = xs.dropLast := by
  unfold cutV
  rw [HT.sIx_none, Nat.sub_zero, List.drop_zero, List.dropLast_eq_take]
  congr 1
  show (if (-1 : Int) < 0 then (-1 + (xs.length : Int)).toNat else min (-1 : Int).toNat xs.length) = xs.length - 1
  rw [if_pos (by decide)]
  omega
theorem pool_at {pool : List V} {i : Int} (hp : pool ≠ []) : ∃ y, atI pool (i % (pool.length : Int)) = some y ∧ y ∈ pool := by
  have hl : 0 < pool.length := List.length_pos_iff.mpr hp
  have q1 := Int.emod_nonneg i (show (pool.length : Int) ≠ 0 by omega)
  have q2 := Int.emod_lt_of_pos i (show 0 < (pool.length : Int) by omega)
  have hlt : (i % (pool.length : Int)).toNat < pool.length := by omega
  refine ⟨pool[(i % (pool.length : Int)).toNat], ?_, List.getElem_mem hlt⟩
  have e : i % (pool.length : Int) = (((i % (pool.length : Int)).toNat : Nat) : Int) := by omega
  conv => lhs; rw [e]
  exact atI_nat (List.getElem?_eq_getElem hlt)
theorem ok_grown (F : Fun K "_law_grown" "_law_grown" sGrown f fd) (T : Txt K mg c) (M : Makers P w K mg base c) : FnOk P w K mg base CX0 3 f fd ["_law_stack", "_law_cell", "_law_pool"] (spGrown K c) := by
  obtain ⟨⟨f1, d1, G1, M1, m1, b1⟩, ⟨f2, d2, G2, M2, m2, b2⟩, ⟨f3, d3, G3, M3, m3, b3⟩, ⟨f4, d4, G4, M4, m4, b4⟩, ⟨f5, d5, G5, M5, m5, b5⟩⟩ := M
  refine F.ok scGrown (fun vs H Q E h => ?_) (fun cdv A outer s H vs Q E hr h => ?_)
  · obtain ⟨s, p, i, zs, pool, rfl, _⟩ := h
    rfl
  · obtain ⟨s0, p, i, zs, pool, rfl, sk, z40, t90, hP, pne, pcell, kq⟩ := h
    have hu := hu_of hr
    refine ⟨_, pss_cons (ps_set (i := 3) scGrown.nd rfl (Or.inl rfl) (pe_op op_mod (pv 1) pe_int))
      (pss_cons (ps_set (i := 4) scGrown.nd rfl (Or.inl rfl) (pe_op op_add pe_int (pe_op op_mod (pe_op op_fdiv (pv 1) pe_int) pe_int)))
      (pss_cons (ps_set (i := 5) scGrown.nd rfl (Or.inl rfl) (pe_slice sl_list (pv 0) (po_some (pe_callB (call_max2 rfl) (by rfl) T.fMax (by decide +kernel) (pa_cons pe_int (pa_cons (pe_op op_sub (pe_callB call_len_seq (by rfl) T.fLen PySem.boot_len (pa_cons (pv 0) pa_nil)) (pv 4)) pa_nil)))) po_none))
      (pss_cons (ps_set (i := 6) scGrown.nd rfl (Or.inl rfl) (pe_op op_add pe_int (pe_callBK (cr_maxDf rfl hu) (by rfl) T.fMax (by decide +kernel) (pa_cons (pe_lc (te := tOp (rIxT K) (tVar 7) (tC (.int 0))) (own := [("_law_part", 7)]) (g := gName 7) (tt := tYes) rfl scGrown.nd (pi_list (pv 5)) (blkOk_by (own := [("_law_part", 7)]) (N := nGrown) (sc := defScope sGrown) (by decide +kernel))
        (fun _ _ _ _ _ => pg_name (i := 7) scGrown.nd rfl (Or.inl rfl)) (fun _ _ _ _ _ => pts_nil) (fun _ _ _ _ _ => pe_ix ix_tup (pv 7) pe_int (fun _ _ => rfl))) pa_nil) (pk_cons pe_int pk_nil))))
      (pss_cons (ps_if (pt_cmpR op_eq (pv 3) pe_int (nomark _)) (pss_one (ps_ret (pe_op op_cat (pv 0) (pe_lst (pa_cons (pe_tup (pa_cons pe_int (pa_cons (pe_make M1 G1 hr (by rfl) m1 b1 .nil pass0 (pa_cons (pe_cmpR op_eq (pe_op op_mod (pe_op op_fdiv (pv 1) pe_int) pe_int) pe_int (nomark _)) pa_nil)) pa_nil))) pa_nil))))) pss_nil)
      (pss_cons (ps_if (PW.pt (pw_or (pt_cmpR op_lt (pv 3) pe_int (nomark _)) (pw_or (pt_cmpR (op_eqNil (Nat.lt_of_succ_lt hu)) (pv 5) (pe_lst pa_nil) (nomark _)) (pw_or1 (pt_cmpR op_gt (pv 6) pe_int (nomark _))))))
        (pss_one (ps_ret (pe_op op_cat (pv 0) (pe_lst (pa_cons (pe_tup (pa_cons pe_int (pa_cons (pe_make M2 G2 hr (by rfl) m2 b2 .nil pass0 (pa_cons (pe_ix ix_list (pv 2) (pe_op op_mod (pe_op op_fdiv (pv 1) pe_int) (pe_callB call_len_seq (by rfl) T.fLen PySem.boot_len (pa_cons (pv 2) pa_nil))) (fun _ _ => rfl))
          (pa_cons (pe_ix ix_list (pv 2) (pe_op op_mod (pe_op op_fdiv (pv 1) pe_int) (pe_callB call_len_seq (by rfl) T.fLen PySem.boot_len (pa_cons (pv 2) pa_nil))) (fun _ _ => rfl)) pa_nil))) pa_nil))) pa_nil))))) pss_nil)
      (pss_cons (ps_if (pt_cmpR op_eq (pv 3) pe_int (nomark _)) (pss_one (ps_ret (pe_op op_cat (pe_slice sl_list (pv 0) po_none (po_some (pe_un un_neg pe_int))) (pe_lst (pa_cons (pe_tup (pa_cons (pe_op op_add pe_int (pe_ix ix_tup (pe_ix ix_list (pv 0) (pe_un un_neg pe_int) (fun _ _ => rfl)) pe_int (fun _ _ => rfl)))
          (pa_cons (pe_make M5 G5 hr (by rfl) m5 b5 .nil pass0 (pa_cons (pe_ix ix_tup (pe_ix ix_list (pv 0) (pe_un un_neg pe_int) (fun _ _ => rfl)) pe_int (fun _ _ => rfl)) pa_nil)) pa_nil))) pa_nil))))) pss_nil)
      (pss_cons (ps_if (pt_cmpR op_eq (pv 3) pe_int (nomark _)) (pss_one (ps_ret (pe_op op_cat (pe_slice sl_list (pv 0) po_none (po_some (pe_op op_sub (pe_callB call_len_seq (by rfl) T.fLen PySem.boot_len (pa_cons (pv 0) pa_nil)) (pe_callB call_len_seq (by rfl) T.fLen PySem.boot_len (pa_cons (pv 5) pa_nil)))))
          (pe_lst (pa_cons (pe_tup (pa_cons (pv 6) (pa_cons (pe_make M4 G4 hr (by rfl) m4 b4 .nil pass0 (pa_cons (pe_lc (te := tOp (rIxT K) (tVar 7) (tC (.int 1))) (own := [("_law_part", 7)]) (g := gName 7) (tt := tYes) rfl scGrown.nd (pi_list (pv 5)) (blkOk_by (own := [("_law_part", 7)]) (N := nGrown) (sc := defScope sGrown) (by decide +kernel))
            (fun _ _ _ _ _ => pg_name (i := 7) scGrown.nd rfl (Or.inl rfl)) (fun _ _ _ _ _ => pts_nil) (fun _ _ _ _ _ => pe_ix ix_tup (pv 7) pe_int (fun _ _ => rfl))) pa_nil)) pa_nil))) pa_nil))))) pss_nil)
      (pss_one (ps_ret (pe_op op_cat (pe_slice sl_list (pv 0) po_none (po_some (pe_op op_sub (pe_callB call_len_seq (by rfl) T.fLen PySem.boot_len (pa_cons (pv 0) pa_nil)) (pe_callB call_len_seq (by rfl) T.fLen PySem.boot_len (pa_cons (pv 5) pa_nil)))))
          (pe_lst (pa_cons (pe_tup (pa_cons (pv 6) (pa_cons (pe_make M3 G3 hr (by rfl) m3 b3 .nil pass0 (pa_cons (pe_lc (te := tOp (rIxT K) (tVar 7) (tC (.int 1))) (own := [("_law_part", 7)]) (g := gName 7) (tt := tYes) rfl scGrown.nd (pi_list (pv 5)) (blkOk_by (own := [("_law_part", 7)]) (N := nGrown) (sc := defScope sGrown) (by decide +kernel))
            (fun _ _ _ _ _ => pg_name (i := 7) scGrown.nd rfl (Or.inl rfl)) (fun _ _ _ _ _ => pts_nil) (fun _ _ _ _ _ => pe_ix ix_tup (pv 7) pe_int (fun _ _ => rfl))) pa_nil)) pa_nil))) pa_nil)))))))))))), ?_⟩
    -- way, many
    refine q_asg (ev_op (ev_var rfl) ev_c (rv_I (by show (0 : Int) < 7; decide))) fun H1 e1 => ?_
    refine q_asg (ev_op ev_c (ev_op (ev_op (ev_var rfl) ev_c (rv_I ⟨by decide, by decide⟩)) ev_c (rv_I (by show (0 : Int) < 4; decide))) rv_I0) fun H2 e2 => ?_
    have E2 : Ex H H2 := e1.trans e2
    have L2' := (sk.ex E2).lst
    -- parts
    obtain ⟨a, ha, han, hal⟩ := max0 (((zs.map fun z => V.ref z.1).length : Nat) : Int) (1 + i / 7 % 4) (by omega) (by omega)
    have sl := el_sl (K := K) (σ := [some (.ref s0), some (.int i), some (.ref p), some (.int (i % 7)), some (.int (1 + i / 7 % 4)), none, none, none]) (H := H2) (te := tVar 0) (th := tNoPart)
      (tl := tPart (tCB rMax2 (tCons (tC (.int 0)) (tCons (tOp (rI0 fun i j => .int (i - j)) (tCB (rLenS K) (tCons (tVar 0) tNil)) (tVar 4)) tNil))))
      (ev_var rfl) (eo_some (ev_max2 ev_c (ev_op (ev_len (ev_var rfl) (sq_of L2')) (ev_var rfl) rv_I0))) eo_none (sq_of L2')
    rw [ha, cut_drop _ _ (by rw [List.length_map]; rw [List.length_map] at han; omega), ← List.map_drop] at sl
    refine q_asgL sl fun l H3 hl e3 h3 => ?_
    have E3 : Ex H H3 := E2.trans e3
    have hall : ∀ z ∈ zs.drop a, WAt c pool H3 z := fun z hz => (sk.all z (List.mem_of_mem_drop hz)).ex E3
    have dlen : (zs.drop a).length ≤ 40 := by rw [List.length_drop]; omega
    -- deep
    have dp := el_part (K := K) (c := c) (pool := pool) (σ := [some (.ref s0), some (.int i), some (.ref p), some (.int (i % 7)), some (.int (1 + i / 7 % 4)), some (.ref l), none, none]) rfl (fun x => rfl) (fun x => rfl) h3 hall (by omega) 0 (fun z => .int z.2.1) (fun z => rfl)
    have dpn : ((zs.drop a).map fun z => V.int z.2.1) = ((zs.drop a).map fun z => (z.2.1 : Int)).map V.int := by
      rw [List.map_map]
      rfl
    rw [dpn] at dp
    refine q_asgP (evp_add (evp_maxD dp ev_c)) fun v H4 e4 ⟨m, ev, mge, mis⟩ => ?_
    subst ev
    have E4 : Ex H H4 := E3.trans e4
    obtain ⟨M, rfl, M18⟩ : ∃ M : Nat, m = (M : Int) ∧ M ≤ 18 := by
      rcases mis with rfl | hm
      · exact ⟨0, rfl, by decide⟩
      · obtain ⟨z, hz, rfl⟩ := List.mem_map.mp hm
        exact ⟨z.2.1, rfl, (hall z hz).deep.2⟩
    have mle : ∀ z ∈ zs.drop a, z.2.1 ≤ M := fun z hz => by
      have := mge (z.2.1 : Int) (List.mem_map.mpr ⟨z, hz, rfl⟩)
      omega
    have sk4 := sk.ex E4
    have zl : (zs.map fun z => V.ref z.1).length ≤ 999 := by rw [List.length_map]; omega
    -- way == 6
    refine q_when (et_test (ev_op (ev_var rfl) ev_c (rv_eq rfl))) (fun _ H5 e5 => ?_) (fun _ H5 e5 => ?_)
    · refine s_retP (evp_push (evp_at (ev_var rfl) (sk4.ex e5).lst) ev_c (evp_make (ea_cons (ev_op (ev_op (ev_op (ev_var rfl) ev_c (rv_I ⟨by decide, by decide⟩)) ev_c (rv_I (by show (0 : Int) < 2; decide))) ev_c (rv_eq rfl)) ea_nil) rfl) (fun v H1 H2 e ⟨x, dx, q1, q2⟩ => ⟨x, dx, q1, e _ _ q2⟩) zl) ?_
      rintro v H6 e6 ⟨l', t, x, rfl, q1, q2, x', dx, rfl, q3⟩
      have E6 := (E4.trans e5).trans e6
      exact kq _ H6 E6 (grew_of (k := 1) (d := ⟨x', [], fun _ => _⟩) E6 sk.all q1 q2 (CondN.up (.inl ⟨dx, _, q3, rfl, rfl⟩)) ⟨by decide, by decide⟩ (fun y hy => by cases hy) (Nat.le_refl _) (Nat.le_add_right _ _))
    -- a Same
    have E5 : Ex H H5 := E4.trans e5
    have sk5 := sk4.ex e5
    have h5 := e5 _ _ (e4 _ _ h3)
    refine q_when (et_or (et_test (ev_op (ev_var rfl) ev_c rv_I0)) fun _ => et_or (et_nil (ev_var rfl) (sq_of h5)) fun _ => et_test (ev_op (ev_var rfl) ev_c rv_I0)) (fun _ H6 e6 => ?_) (fun hb H6 e6 => ?_)
    · obtain ⟨y1, a1, p1⟩ := pool_at (i := i / 7) pne
      obtain ⟨y2, a2, p2⟩ := pool_at (i := i / 49) pne
      have E6 : Ex H H6 := E5.trans e6
      have pl : (0 : Int) < ((pool.length : Nat) : Int) := by
        have := List.length_pos_iff.mpr pne
        omega
      have hP6 := ex_l E6 hP
      refine s_retP (evp_push (evp_at (ev_var rfl) (sk5.ex e6).lst) ev_c (evp_make (ea_cons (ev_op (ev_var rfl) (ev_op (ev_op (ev_var rfl) ev_c (rv_I ⟨by decide, by decide⟩)) (ev_len (ev_var rfl) hP6) (rv_I pl)) (rv_ixL hP6 a1))
        (ea_cons (ev_op (ev_var rfl) (ev_op (ev_op (ev_var rfl) ev_c (rv_I ⟨by decide, by decide⟩)) (ev_len (ev_var rfl) hP6) (rv_I pl)) (rv_ixL hP6 a2)) ea_nil)) rfl) (fun v H1 H2 e ⟨x, dx, q1, q2⟩ => ⟨x, dx, q1, e _ _ q2⟩) zl) ?_
      rintro v H7 e7 ⟨l', t, x, rfl, q1, q2, x', dx, rfl, q3⟩
      have E7 := E6.trans e7
      refine kq _ H7 E7 (grew_of (k := 1) (d := ⟨x', [y1, y2], fun f => decide (cv f y1 = cv f y2)⟩) E7 sk.all q1 q2 (CondN.up (.inr ⟨dx, y1, y2, q3, pcell _ p1, pcell _ p2, rfl, rfl⟩)) ⟨by decide, by decide⟩ (fun y hy => ?_) (Nat.le_refl _) (Nat.le_refl _))
      rcases List.mem_cons.mp hy with e | hy
      · rw [e]; exact p1
      · rw [List.mem_singleton.mp hy]; exact p2
    have E6 : Ex H H6 := E5.trans e6
    have sk6 := sk5.ex e6
    have h6 := e6 _ _ h5
    obtain ⟨_, hb2⟩ := Bool.or_eq_false_iff.mp hb
    obtain ⟨hb3, hb4⟩ := Bool.or_eq_false_iff.mp hb2
    have dne : zs.drop a ≠ [] := fun z => by
      rw [z] at hb3
      cases hb3
    have M17 : M + 1 ≤ 18 := by
      have := of_decide_eq_false hb4
      omega
    have alen : a < zs.length := by
      have := List.length_pos_iff.mpr dne
      rw [List.length_drop] at this
      omega
    -- an Opposite
    refine q_when (et_test (ev_op (ev_var rfl) ev_c (rv_eq rfl))) (fun _ H7 e7 => ?_) (fun _ H7 e7 => ?_)
    · obtain ⟨z, hz⟩ : ∃ z, zs[zs.length - 1]? = some z := ⟨_, List.getElem?_eq_getElem (by omega)⟩
      have zin : z ∈ zs.drop a := by
        refine List.mem_of_getElem? (i := zs.length - 1 - a) ?_
        rw [List.getElem?_drop, show a + (zs.length - 1 - a) = zs.length - 1 by omega]
        exact hz
      have zw : WAt c pool H7 z := (hall z zin).ex (((e4.trans e5).trans e6).trans e7)
      have sk7 := sk6.ex e7
      have zcut : zs = zs.dropLast ++ [z] := by
        have hne : zs ≠ [] := fun q => by rw [q] at hz; cases hz
        have q := List.dropLast_concat_getLast hne
        rw [List.getLast_eq_getElem] at q
        have e : zs[zs.length - 1]'(by omega) = z := (List.getElem?_eq_some_iff.mp hz).2
        rw [e] at q
        exact q.symm
      have last : atI (zs.map fun z => V.ref z.1) (-1) = some (.ref z.1) := by
        rw [zcut, List.map_append]
        exact atI_last _ _
      have tz := zw.tup
      have lastE : Ev (tOp (rIxL K) (tVar 0) (tUn (rU fun i => .int (-i)) (tC (.int 1)))) [some (.ref s0), some (.int i), some (.ref p), some (.int (i % 7)), some (.int (1 + i / 7 % 4)), some (.ref l), some (.int (1 + (M : Int))), none] H7 (.ref z.1) :=
        ev_op (ev_var rfl) (ev_un ev_c ru_neg) (rv_ixL (sq_of sk7.lst) last)
      have slp := el_sl (K := K) (σ := [some (.ref s0), some (.int i), some (.ref p), some (.int (i % 7)), some (.int (1 + i / 7 % 4)), some (.ref l), some (.int (1 + (M : Int))), none]) (H := H7) (te := tVar 0) (tl := tNoPart) (th := tPart (tUn (rU fun i => .int (-i)) (tC (.int 1))))
        (ev_var rfl) eo_none (eo_some (ev_un ev_c ru_neg)) (sq_of sk7.lst)
      rw [show (-(1 : Int)) = -1 from rfl, cut_last, ← List.map_dropLast] at slp
      refine s_retP (evp_push (evp_isL slp) (ev_op ev_c (ev_op lastE ev_c (rv_ixT (st_of tz) (atI_nat (j := 0) rfl))) rv_I0) (evp_make (ea_cons (ev_op lastE ev_c (rv_ixT (st_of tz) (atI_nat (j := 1) rfl))) ea_nil) rfl) (fun v H1 H2 e ⟨x, dx, q1, q2⟩ => ⟨x, dx, q1, e _ _ q2⟩) (by rw [List.length_map, List.length_dropLast]; omega)) ?_
      rintro v H8 e8 ⟨l', t, x, rfl, q1, q2, x', dx, rfl, q3⟩
      have E8 := (E6.trans e7).trans e8
      have zk := mle z zin
      have q2' : H8 t = some (.tup [.int ((z.2.1 + 1 : Nat) : Int), .ref x']) := by
        rw [q2, Int.natCast_add, Int.add_comm]
        rfl
      refine kq _ H8 E8 (grew_of (pre := zs.dropLast) (k := z.2.1 + 1) (d := ⟨x', z.2.2.cs, fun f => !z.2.2.h f⟩) E8 (fun y hy => sk.all y (List.dropLast_subset _ hy)) q1 q2' (.inr (.inr (.inr (.inr ⟨dx, z.2.2, q3, (zw.ex e8).cond, rfl, rfl⟩)))) ⟨by omega, by omega⟩ zw.sub
        (by rw [List.length_dropLast]; omega) ?_)
      have tq := congrArg tot zcut
      rw [tot_append, tot_one] at tq
      show tot zs.dropLast + z.2.2.cs.length ≤ _
      omega
    -- several
    have E7 : Ex H H7 := E6.trans e7
    have sk7 := sk6.ex e7
    have h7 := e7 _ _ h6
    have tsum : tot zs = tot (zs.take a) + tot (zs.drop a) := by rw [← tot_append, List.take_append_drop]
    have sub7 : ∀ y ∈ ((zs.drop a).map fun z => z.2.2).flatMap (·.cs), y ∈ pool := fun y hy => by
      obtain ⟨d, hd, hy⟩ := List.mem_flatMap.mp hy
      obtain ⟨z, hz, rfl⟩ := List.mem_map.mp hd
      exact (hall z hz).sub y hy
    have many : ∀ {C : Addr} {wd : List Bool → Bool} {H' : Hp} {x dx t : Addr}, Ex H7 H' → H' x = some (.ins C dx (fsV t)) → H' t = some (.tup ((zs.drop a).map fun z => V.ref z.2.2.a)) →
        SevAt C wd (CondN c H' M) H' ⟨x, ((zs.drop a).map fun z => z.2.2).flatMap (·.cs), fun f => wd (((zs.drop a).map fun z => z.2.2).map fun p => p.h f)⟩ := by
      intro C wd H' x dx t e8 g1 g2
      refine ⟨dx, t, (zs.drop a).map fun z => z.2.2, g1, ?_, fun d hd => ?_, by rw [List.length_map]; omega, rfl, ?_, rfl⟩
      · rw [List.map_map]
        exact g2
      · obtain ⟨z, hz, rfl⟩ := List.mem_map.mp hd
        exact ((hall z hz).ex (((e4.trans e5).trans (e6.trans e7)).trans e8)).cond.le (mle z hz)
      · show (((zs.drop a).map fun z => z.2.2).flatMap (·.cs)).length ≤ 100
        rw [tot_flat]
        omega
    have hpre : ∀ z ∈ zs.take a, WAt c pool H z := fun z hz => sk.all z (List.mem_of_mem_take hz)
    have toa : (((zs.map fun z => V.ref z.1).length : Nat) : Int) - ((((zs.drop a).map fun z => V.ref z.1).length : Nat) : Int) = (a : Int) := by
      rw [List.length_map, List.length_map, List.length_drop]
      omega
    have ends : ∀ (H8 : Hp) (e8 : Ex H7 H8), EvP (tSl (rSlL K) (tVar 0) tNoPart (tPart (tOp (rI0 fun i j => .int (i - j)) (tCB (rLenS K) (tCons (tVar 0) tNil)) (tCB (rLenS K) (tCons (tVar 5) tNil)))))
        [some (.ref s0), some (.int i), some (.ref p), some (.int (i % 7)), some (.int (1 + i / 7 % 4)), some (.ref l), some (.int (1 + (M : Int))), none] H8 (IsL ((zs.take a).map fun z => V.ref z.1)) := by
      intro H8 e8
      have q := el_sl (K := K) (σ := [some (.ref s0), some (.int i), some (.ref p), some (.int (i % 7)), some (.int (1 + i / 7 % 4)), some (.ref l), some (.int (1 + (M : Int))), none]) (H := H8) (te := tVar 0) (tl := tNoPart)
        (th := tPart (tOp (rI0 fun i j => .int (i - j)) (tCB (rLenS K) (tCons (tVar 0) tNil)) (tCB (rLenS K) (tCons (tVar 5) tNil))))
        (ev_var rfl) eo_none (eo_some (ev_op (ev_len (ev_var rfl) (sq_of (sk7.ex e8).lst)) (ev_len (ev_var rfl) (sq_of (e8 _ _ h7))) rv_I0)) (sq_of (sk7.ex e8).lst)
      rw [toa, cut_take, ← List.map_take] at q
      exact evp_isL q
    have prt : ∀ (H8 : Hp) (e8 : Ex H7 H8), EvL (tLc (iList K (tVar 5)) (gName 7) tYes (tOp (rIxT K) (tVar 7) (tC (.int ((1 : Nat) : Int)))) [7])
        [some (.ref s0), some (.int i), some (.ref p), some (.int (i % 7)), some (.int (1 + i / 7 % 4)), some (.ref l), some (.int (1 + (M : Int))), none] H8 ((zs.drop a).map fun z => V.ref z.2.2.a) := fun H8 e8 =>
      el_part (K := K) (c := c) (pool := pool) rfl (fun x => rfl) (fun x => rfl) (e8 _ _ h7) (fun z hz => (hall z hz).ex (((e4.trans e5).trans (e6.trans e7)).trans e8)) (by omega) 1 (fun z => .ref z.2.2.a) (fun z => rfl)
    have deep7 : ∀ {t x : Addr} {H' : Hp}, H' t = some (.tup [.int (1 + (M : Int)), .ref x]) → H' t = some (.tup [.int ((M + 1 : Nat) : Int), .ref x]) := fun {t x H'} q => by
      rw [q, Int.natCast_add, Int.add_comm]
      rfl
    have tlen : ((zs.take a).map fun z => V.ref z.1).length ≤ 999 := by
      rw [List.length_map, List.length_take]
      omega
    have fin : tot (zs.take a) + (((zs.drop a).map fun z => z.2.2).flatMap (·.cs)).length ≤ tot zs + 2 := by
      rw [tot_flat]
      omega
    have tle : (zs.take a).length ≤ zs.length := by
      rw [List.length_take]
      omega
    refine q_when (et_test (ev_op (ev_var rfl) ev_c (rv_eq rfl))) (fun _ H8 e8 => ?_) (fun _ H8 e8 => ?_)
    · refine s_retP (evp_push (ends H8 e8) (ev_var rfl) (evp_makeV (K := K) (C := c.O) (prt H8 e8)) (fun v H1 H2 e ⟨x, dx, t, q1, q2, q3⟩ => ⟨x, dx, t, q1, e _ _ q2, e _ _ q3⟩) tlen) ?_
      rintro v H9 e9 ⟨l', t, x, rfl, q1, q2, x', dx, u, rfl, q3, q4⟩
      have E9 := (E7.trans e8).trans e9
      exact kq _ H9 E9 (grew_of (pre := zs.take a) (k := M + 1) (d := ⟨x', _, _⟩) E9 hpre q1 (deep7 q2) (.inr (.inr (.inr (.inl (many (e8.trans e9) q3 q4))))) ⟨by omega, M17⟩ sub7 tle fin)
    · refine s_retP (evp_push (ends H8 e8) (ev_var rfl) (evp_makeV (K := K) (C := c.A) (prt H8 e8)) (fun v H1 H2 e ⟨x, dx, t, q1, q2, q3⟩ => ⟨x, dx, t, q1, e _ _ q2, e _ _ q3⟩) tlen) ?_
      rintro v H9 e9 ⟨l', t, x, rfl, q1, q2, x', dx, u, rfl, q3, q4⟩
      have E9 := (E7.trans e8).trans e9
      exact kq _ H9 E9 (grew_of (pre := zs.take a) (k := M + 1) (d := ⟨x', _, _⟩) E9 hpre q1 (deep7 q2) (.inr (.inr (.inl (many (e8.trans e9) q3 q4)))) ⟨by omega, M17⟩ sub7 tle fin)
end
end K17
/-! The condition; the filling. -/
namespace K17
open PySem PySem.Spec PyProof.Rows L2 Evl
theorem el_part4 {K : PySem.W.Frag} {c : Cl} {pool : List V} {H : Hp} {l : Addr} {zs : List Wk} {σ : L2.St} (hv : σ[2]? = some (some (.ref l))) (hw : ∀ x, wipe ((wipe σ [4]).set 4 (some x)) [4] = wipe σ [4]) (h7 : ∀ x, ((wipe σ [4]).set 4 (some x))[4]? = some (some x))
    (hl : H l = some (.lst (zs.map fun z => V.ref z.1))) (ha : ∀ z ∈ zs, WAt c pool H z) (hz : zs.length ≤ 1000) :
    EvL (tLc (iList K (tVar 2)) (gName 4) tYes (tOp (rIxT K) (tVar 4) (tC (.int 1))) [4]) σ H (zs.map fun z => V.ref z.2.2.a) := by
  have q := el_lcL (K := K) (σ := σ) (H := H) (t := tYes) (te := tOp (rIxT K) (tVar 4) (tC (.int 1))) (j := 4) (vs := [4]) (tl := tVar 2) (fun _ => true) (fun i => match zs[i]? with | some z => V.ref z.2.2.a | none => .non)
    (ev_var hv) (sq_of hl) (by rw [List.length_map]; omega) hw (fun _ _ _ _ _ => et_yes) fun i x H1 e1 hi _ => ?_
  · rw [List.length_map, given_map zs (fun z => V.ref z.2.2.a) _ (fun i z hz => by rw [hz])] at q
    exact q
  · rw [List.getElem?_map] at hi
    cases hp : zs[i]? with
    | none => rw [hp] at hi; cases hi
    | some z =>
      rw [hp] at hi
      have ex := Option.some.inj hi
      subst ex
      exact ev_op (ev_var (h7 _)) ev_c (rv_ixT (st_of (e1 _ _ (ha z (List.mem_of_getElem? hp)).tup)) (atI_nat (j := 1) rfl))
def CondV (c : Cl) (pool : List V) (v : V) (H : Hp) : Prop := ∃ d : Cn, v = .ref d.a ∧ CondN c H 19 d ∧ ∀ y ∈ d.cs, y ∈ pool
def spCond (K : PySem.W.Frag) (c : Cl) : Sp := fun vs H Q _ => ∃ (a p : Addr) (ns : List Int) (pool : List V), vs = [.ref a, .ref p] ∧ SqL K H a (ns.map V.int) ∧ SqL K H p pool ∧ pool ≠ [] ∧ (∀ y ∈ pool, CellV y) ∧ RetP (CondV c pool) H Q
section
variable {P : Program} {w : World} {K : PySem.W.Frag} {mg : Str → Option Value} {base : Heap} {c : Cl} {f : Addr} {fd : FuncData}
abbrev nCond : List Str := ["_law_script", "_law_pool", "_law_stack", "_law_cell", "_law_part"]
theorem scCond : FnScope nCond ["_law_script", "_law_pool"] (defScope sCond) := ⟨rfl, rfl, rfl, by decide +kernel, rfl, by decide +kernel, by decide +kernel⟩
theorem cut_few (xs : List V) : (cutV xs (some 11) (some 51)).length ≤ 40 := by
  unfold cutV
  rw [show (some (11 : Int)) = some ((11 : Nat) : Int) from rfl, show (some (51 : Int)) = some ((51 : Nat) : Int) from rfl, HT.sIx_nat, HT.sIx_nat, List.length_take, List.length_drop]
  omega
theorem cut_sub {xs : List V} {lo hi : Option Int} {x : V} (h : x ∈ cutV xs lo hi) : x ∈ xs := List.mem_of_mem_drop (List.mem_of_mem_take h)
theorem ok_cond (F : Fun K "_law_cond" "_law_cond" sCond f fd) (T : Txt K mg c) (M : Makers P w K mg base c) (GA : Def P w K mg base 1 "_law_at" ["_law_script", "_law_k"] (spAt K))
    (GG : Def P w K mg base 3 "_law_grown" ["_law_stack", "_law_cell", "_law_pool"] (spGrown K c)) : FnOk P w K mg base CX0 4 f fd ["_law_script", "_law_pool"] (spCond K c) := by
  obtain ⟨_, _, ⟨f3, d3, G3, M3, m3, b3⟩, ⟨f4, d4, G4, M4, m4, b4⟩, _⟩ := M
  obtain ⟨f1, fd1, G1, m1, k1, b1⟩ := GA
  obtain ⟨f2, fd2, G2, m2, k2, b2⟩ := GG
  refine F.ok scCond (fun vs H Q E h => ?_) (fun cdv A outer s H vs Q E hr h => ?_)
  · obtain ⟨a, p, ns, pool, rfl, _⟩ := h
    rfl
  · obtain ⟨a, p, ns, pool, rfl, hS, hP, pne, pcell, kq⟩ := h
    have hr1 : Room 1 _ := hr.mono (by decide)
    have hr2 : Room 2 _ := hr.mono (by decide)
    refine ⟨_, pss_cons (ps_set (i := 2) scCond.nd rfl (Or.inl rfl) (pe_lst pa_nil))
      (pss_cons (ps_for PassesOwn.never rfl (pi_list (pe_slice sl_list (pv 0) (po_some pe_int) (po_some pe_int))) (pg_name (i := 3) scCond.nd rfl (Or.inl rfl))
        (pss_one (ps_set (i := 2) scCond.nd rfl (Or.inl rfl) (pe_call G2 hr (by rfl) m2 k2 b2 .nil pass0 (pa_cons (pv 2) (pa_cons (pv 3) (pa_cons (pv 1) pa_nil)))))))
      (pss_cons (ps_if (pt_cmpR op_eq (pe_callB call_len_seq (by rfl) T.fLen PySem.boot_len (pa_cons (pv 2) pa_nil)) pe_int (nomark _)) (pss_one (ps_ret (pe_ix ix_tup (pe_ix ix_list (pv 2) pe_int (fun _ _ => rfl)) pe_int (fun _ _ => rfl)))) pss_nil)
      (pss_cons (ps_if (pt_cmpR op_eq (pe_op op_mod (pe_call G1 hr1 (by rfl) m1 k1 b1 .nil pass0 (pa_cons (pv 0) (pa_cons pe_int pa_nil))) pe_int) pe_int (nomark _))
        (pss_one (ps_ret (pe_make M3 G3 hr2 (by rfl) m3 b3 .nil pass0 (pa_cons (pe_lc (te := tOp (rIxT K) (tVar 4) (tC (.int 1))) (own := [("_law_part", 4)]) (g := gName 4) (tt := tYes) rfl scCond.nd (pi_list (pv 2)) (blkOk_by (own := [("_law_part", 4)]) (N := nCond) (sc := defScope sCond) (by decide +kernel))
          (fun _ _ _ _ _ => pg_name (i := 4) scCond.nd rfl (Or.inl rfl)) (fun _ _ _ _ _ => pts_nil) (fun _ _ _ _ _ => pe_ix ix_tup (pv 4) pe_int (fun _ _ => rfl))) pa_nil)))) pss_nil)
      (pss_one (ps_ret (pe_make M4 G4 hr2 (by rfl) m4 b4 .nil pass0 (pa_cons (pe_lc (te := tOp (rIxT K) (tVar 4) (tC (.int 1))) (own := [("_law_part", 4)]) (g := gName 4) (tt := tYes) rfl scCond.nd (pi_list (pv 2)) (blkOk_by (own := [("_law_part", 4)]) (N := nCond) (sc := defScope sCond) (by decide +kernel))
          (fun _ _ _ _ _ => pg_name (i := 4) scCond.nd rfl (Or.inl rfl)) (fun _ _ _ _ _ => pts_nil) (fun _ _ _ _ _ => pe_ix ix_tup (pv 4) pe_int (fun _ _ => rfl))) pa_nil))))))), ?_⟩
    refine ⟨Nat.zero_le _, fun l hl => ?_⟩
    have e0 : Ex H (upd H l (.lst [])) := Ex.new hl
    have sl := el_sl (K := K) (σ := [some (.ref a), some (.ref p), some (.ref l), none, none]) (H := upd H l (.lst [])) (te := tVar 0) (tl := tPart (tC (.int 11))) (th := tPart (tC (.int 51))) (ev_var rfl) (eo_some ev_c) (eo_some ev_c) (ex_l e0 hS)
    refine q_forNLn sl (fun b i σ H' => ∃ (s : Addr) (v : Option V) (zs : List Wk), σ = [some (.ref a), some (.ref p), some (.ref s), v, none] ∧ Ex H H' ∧ SqL K H' b (cutV (ns.map V.int) (some 11) (some 51)) ∧ SK c pool H' s zs ∧ zs.length ≤ i ∧ tot zs ≤ 2 * i)
      (fun b H1 _ e1 h1 => ⟨l, none, [], rfl, e0.trans e1, sq_of h1, ⟨e1 _ _ upd_same, fun z hz => by cases hz⟩, Nat.le_refl _, Nat.le_refl _⟩) (fun b i σ H' _ ⟨_, _, _, _, _, h, _⟩ => h) ?_ ?_
    · rintro b i x σ H' hi ⟨s1, v, zs, rfl, e, hb, sk, zl, zt⟩
      have hil := (List.getElem?_eq_some_iff.mp hi).1
      have h40 := cut_few (ns.map V.int)
      obtain ⟨y, _, rfl⟩ := List.mem_map.mp (cut_sub (List.mem_of_getElem? hi))
      refine s_asgP (P := Grew c pool zs) (evp_call (ea_cons (ev_var rfl) (ea_cons (ev_var rfl) (ea_cons (ev_var rfl) ea_nil))) fun H1 e1 Q r E => ⟨s1, p, y, zs, pool, rfl, sk.ex e1, by omega, by omega, ex_l (e.trans e1) hP, pne, pcell, r⟩) ?_
      rintro v1 H1 e1 ⟨s2, zs', rfl, sk', l', t'⟩
      exact ⟨s2, _, zs', rfl, e.trans e1, ex_l e1 hb, sk', by omega, by omega⟩
    · rintro b σ H' ⟨s1, v, zs, rfl, e, hb, sk, zl, zt⟩
      have h40 := cut_few (ns.map V.int)
      have zb : ((((zs.map fun z => V.ref z.1).length : Nat)) : Int) = (zs.length : Int) := by rw [List.length_map]
      have many : ∀ {C : Addr} {wd : List Bool → Bool} {H2 : Hp} {x dx t : Addr}, Ex H' H2 → H2 x = some (.ins C dx (fsV t)) → H2 t = some (.tup (zs.map fun z => V.ref z.2.2.a)) →
          SevAt C wd (CondN c H2 18) H2 ⟨x, (zs.map fun z => z.2.2).flatMap (·.cs), fun f => wd ((zs.map fun z => z.2.2).map fun p => p.h f)⟩ := by
        intro C wd H2 x dx t e8 g1 g2
        refine ⟨dx, t, zs.map fun z => z.2.2, g1, ?_, fun d hd => ?_, by rw [List.length_map]; omega, rfl, ?_, rfl⟩
        · rw [List.map_map]
          exact g2
        · obtain ⟨z, hz, rfl⟩ := List.mem_map.mp hd
          exact ((sk.all z hz).ex e8).cond.le (sk.all z hz).deep.2
        · show ((zs.map fun z => z.2.2).flatMap (·.cs)).length ≤ 100
          rw [tot_flat]
          omega
      have sub : ∀ y ∈ (zs.map fun z => z.2.2).flatMap (·.cs), y ∈ pool := fun y hy => by
        obtain ⟨d, hd, hy⟩ := List.mem_flatMap.mp hy
        obtain ⟨z, hz, rfl⟩ := List.mem_map.mp hd
        exact (sk.all z hz).sub y hy
      refine q_when (et_test (ev_op (ev_len (ev_var rfl) (sq_of sk.lst)) ev_c (rv_eq rfl))) (fun hb1 H1 e1 => ?_) (fun _ H1 e1 => ?_)
      · have hlen : zs.length = 1 := by
          have q := of_decide_eq_true hb1
          rw [zb] at q
          have q := V.int.inj q
          omega
        obtain ⟨z, rfl⟩ := List.length_eq_one_iff.mp hlen
        have zw := (sk.all z List.mem_cons_self).ex e1
        refine s_ret (ev_op (ev_op (ev_var rfl) ev_c (rv_ixL (sq_of (sk.ex e1).lst) (atI_nat (j := 0) rfl))) ev_c (rv_ixT (st_of zw.tup) (atI_nat (j := 1) rfl))) fun H2 e2 => ?_
        exact kq _ H2 ((e.trans e1).trans e2) ⟨z.2.2, rfl, ((zw.ex e2).cond.le zw.deep.2).up, zw.sub⟩
      · have mono : ∀ {C : Addr} (v : V) (H1 H2 : Hp), Ex H1 H2 → (∃ x dx t, v = .ref x ∧ H1 x = some (.ins C dx (fsV t)) ∧ H1 t = some (.tup (zs.map fun z => V.ref z.2.2.a))) → ∃ x dx t, v = .ref x ∧ H2 x = some (.ins C dx (fsV t)) ∧ H2 t = some (.tup (zs.map fun z => V.ref z.2.2.a)) :=
          fun v H1 H2 e ⟨x, dx, t, q1, q2, q3⟩ => ⟨x, dx, t, q1, e _ _ q2, e _ _ q3⟩
        refine q_when (et_test (ev_op (ev_op (ev_callV (ea_cons (ev_var rfl) (ea_cons ev_c ea_nil)) fun H2 e2 Q r E => ⟨a, ns, 10, rfl, ex_l ((e.trans e1).trans e2) hS, r⟩) ev_c (rv_I (by show (0 : Int) < 2; decide))) ev_c (rv_eq rfl))) (fun _ H2 e2 => ?_) (fun _ H2 e2 => ?_)
        · refine s_retP (evp_makeV (K := K) (C := c.A) (el_part4 (c := c) (pool := pool) rfl (fun x => rfl) (fun x => rfl) (sk.ex (e1.trans e2)).lst (sk.ex (e1.trans e2)).all (by omega))) ?_
          rintro v3 H3 e3 ⟨x, dx, t, rfl, q1, q2⟩
          exact kq _ H3 (((e.trans e1).trans e2).trans e3) ⟨⟨x, _, _⟩, rfl, .inr (.inr (.inl (many ((e1.trans e2).trans e3) q1 q2))), sub⟩
        · refine s_retP (evp_makeV (K := K) (C := c.O) (el_part4 (c := c) (pool := pool) rfl (fun x => rfl) (fun x => rfl) (sk.ex (e1.trans e2)).lst (sk.ex (e1.trans e2)).all (by omega))) ?_
          rintro v3 H3 e3 ⟨x, dx, t, rfl, q1, q2⟩
          exact kq _ H3 (((e.trans e1).trans e2).trans e3) ⟨⟨x, _, _⟩, rfl, .inr (.inr (.inr (.inl (many ((e1.trans e2).trans e3) q1 q2)))), sub⟩
end
end K17
/-! The filling; whether two are alike. -/
namespace K17
open PySem PySem.Spec PyProof.Rows L2 Evl
theorem dRow_put {gs : List Str} {row : List Int} {i : Nat} {g : Str} (nd : gs.Nodup) (hg : gs[i]? = some g) (hl : row.length = i) (x : Int) : putK (dRow (gs.take i) row) (Sum.inr g : Key) (.int x) = dRow (gs.take (i + 1)) (row ++ [x]) := by
  have hi : i < gs.length := (List.getElem?_eq_some_iff.mp hg).1
  have gno : g ∉ gs.take i := fun hm => by
    obtain ⟨j, hj, ej⟩ := of_take hm
    obtain ⟨l1, q1⟩ := List.getElem?_eq_some_iff.mp ej
    obtain ⟨l2, q2⟩ := List.getElem?_eq_some_iff.mp hg
    have := (List.getElem_inj nd).mp (q1.trans q2.symm)
    omega
  have hlen : (gs.take i).length = row.length := by rw [List.length_take]; omega
  rw [putK_new _ (dRow_no gno), ← dRow_snoc hlen, List.take_add_one, hg]
  rfl
theorem dRow_take {gs : List Str} {row : List Int} {i j : Nat} {g : Str} {x : Int} (nd : gs.Nodup) (hg : gs[j]? = some g) (hj : j < i) (hx : row[j]? = some x) : valV (dRow (gs.take i) row) (Sum.inr g : Key) = some (.int x) := by
  refine dRow_at (i := j) (nd.sublist (List.take_sublist _ _)) ?_ hx
  rw [List.getElem?_take, if_pos hj]
  exact hg
def spFilling (K : PySem.W.Frag) : Sp := fun vs H Q _ => ∃ (a g u : Addr) (ns : List Int) (gs : List Str) (us : List Int), vs = [.ref a, .ref g, .ref u] ∧ SqL K H a (ns.map V.int) ∧ SqL K H g (gs.map V.str) ∧ gs.Nodup ∧ gs.length ≤ 3 ∧ SqL K H u (us.map V.int) ∧ us ≠ [] ∧
  RetP (fun v H' => ∃ (p : Addr) (row : List Int), v = .ref p ∧ H' p = some (.dK (dRow gs row)) ∧ row.length = gs.length) H Q
def spAlike (K : PySem.W.Frag) : Sp := fun vs H Q _ => ∃ (g u o1 o2 : Addr) (gs : List Str) (us r s : List Int), vs = [.ref g, .ref u, .ref o1, .ref o2] ∧ SqL K H g (gs.map V.str) ∧ gs.Nodup ∧ SqL K H u (us.map V.int) ∧
  H o1 = some (.dK (dRow gs r)) ∧ H o2 = some (.dK (dRow gs s)) ∧ r.length = gs.length ∧ s.length = gs.length ∧ ∀ b : Bool, (b = true ↔ AlikeR us r s) → Q (.bl b) H
section
variable {P : Program} {w : World} {K : PySem.W.Frag} {mg : Str → Option Value} {base : Heap} {c : Cl} {f : Addr} {fd : FuncData}
abbrev nFill : List Str := ["_law_script", "_law_gaps", "_law_values_here", "_law_filling_here", "_law_k", "_law_cell"]
theorem scFill : FnScope nFill ["_law_script", "_law_gaps", "_law_values_here"] (defScope sFilling) := ⟨rfl, rfl, rfl, by decide +kernel, rfl, by decide +kernel, by decide +kernel⟩
theorem ok_filling (F : Fun K "_law_filling" "_law_filling" sFilling f fd) (T : Txt K mg c) (GA : Def P w K mg base 1 "_law_at" ["_law_script", "_law_k"] (spAt K)) (GV : Def P w K mg base 1 "_law_value" ["_law_cell"] spValue) :
    FnOk P w K mg base CX0 2 f fd ["_law_script", "_law_gaps", "_law_values_here"] (spFilling K) := by
  obtain ⟨f1, fd1, G1, m1, k1, b1⟩ := GA
  obtain ⟨f2, fd2, G2, m2, k2, b2⟩ := GV
  refine F.ok scFill (fun vs H Q E h => ?_) (fun cdv A outer s H vs Q E hr h => ?_)
  · obtain ⟨a, g, u, ns, gs, us, rfl, _⟩ := h
    rfl
  · obtain ⟨a, g, u, ns, gs, us, rfl, hS, hG, nd, g3, hU, une, kq⟩ := h
    have hu := hu_of hr
    refine ⟨_, pss_cons (ps_set (i := 3) scFill.nd rfl (Or.inl rfl) pe_dnewK)
      (pss_cons (ps_for PassesOwn.never rfl (pi_range1 (by rfl) T.fRange (pa_cons (pe_callB call_len_seq (by rfl) T.fLen PySem.boot_len (pa_cons (pv 1) pa_nil)) pa_nil)) (pg_name (i := 4) scFill.nd rfl (Or.inl rfl))
        (pss_cons (ps_set (i := 5) scFill.nd rfl (Or.inl rfl) (pe_call G1 hr (by rfl) m1 k1 b1 .nil pass0 (pa_cons (pv 0) (pa_cons (pe_op op_add pe_int (pv 4)) pa_nil))))
        (pss_one (ps_if (pt_cmpR op_eq (pe_op op_mod (pv 5) pe_int) pe_int (nomark _))
          (pss_one (ps_dput hu (pv 3) (pe_ix ix_list (pv 1) (pv 4) (fun _ _ => rfl)) (pe_ix ix_list (pv 2) (pe_op op_mod (pe_op op_fdiv (pv 5) pe_int) (pe_callB call_len_seq (by rfl) T.fLen PySem.boot_len (pa_cons (pv 2) pa_nil))) (fun _ _ => rfl)) rfl))
          (pss_one (ps_if (PW.pt (pw_and (pt_cmpR op_eq (pe_op op_mod (pv 5) pe_int) pe_int (nomark _)) (pw_and1 (pt_cmpR op_gt (pv 4) pe_int (nomark _)))))
            (pss_one (ps_dput hu (pv 3) (pe_ix ix_list (pv 1) (pv 4) (fun _ _ => rfl)) (pe_dget hu (pv 3) (pe_ix ix_list (pv 1) (pe_op op_mod (pe_op op_fdiv (pv 5) pe_int) (pv 4)) (fun _ _ => rfl)) (fun _ _ => rfl)) rfl))
            (pss_one (ps_dput hu (pv 3) (pe_ix ix_list (pv 1) (pv 4) (fun _ _ => rfl)) (pe_call G2 hr (by rfl) m2 k2 b2 .nil pass0 (pa_cons (pe_op op_fdiv (pv 5) pe_int) pa_nil)) rfl))))))))
      (pss_one (ps_ret (pv 3)))), ?_⟩
    intro d hd
    have e0 : Ex H (upd H d (.dK [])) := Ex.new hd
    have gl : (((gs.map V.str).length : Nat) : Int) = (gs.length : Int) := by rw [List.length_map]
    refine ⟨_, rfl, g, _, rfl, .inl (ex_l e0 hG), _, rfl, (by omega), (by omega), ?_⟩
    rw [gl, Int.toNat_natCast]
    refine for_range (lo := 0) (n := gs.length) (fun i σ H' => ∃ (row : List Int) (v4 v5 : Option V), σ = [some (.ref a), some (.ref g), some (.ref u), some (.ref d), v4, v5] ∧ Ex H H' ∧ H' d = some (.dK (dRow (gs.take i) row)) ∧ row.length = i)
      ⟨[], none, none, rfl, e0, upd_same, rfl⟩ ?_ ?_
    · rintro i σ H' hi ⟨row, v4, v5, rfl, e, hD, rl⟩
      rw [Int.zero_add]
      obtain ⟨gp, hgp⟩ : ∃ gp, gs[i]? = some gp := ⟨_, List.getElem?_eq_getElem hi⟩
      have gat : atI (gs.map V.str) ((i : Nat) : Int) = some (.str gp) := atI_nat (by rw [List.getElem?_map, hgp]; rfl)
      have dl : (dRow (gs.take i) row).length < sizeLine := small1000 (by
        rw [dRow_len (by rw [List.length_take]; omega), List.length_take]
        omega)
      refine ⟨_, rfl, _, rfl, _, _, rfl, rfl, a, ns, 6 + i, ?_, ex_l e hS, fun H1 e1 => ?_⟩
      · show [V.ref a, V.int (6 + (i : Int))] = [V.ref a, V.int (((6 + i : Nat)) : Int)]
        rw [Int.natCast_add]
        rfl
      · have E1 : Ex H H1 := e.trans e1
        have hD1 := e1 _ _ hD
        have hG1 := ex_l E1 hG
        -- what is put at the gap
        have done : ∀ (x : Int) (H2 : Hp), Ex H1 H2 → ∃ (row' : List Int) (v4 v5 : Option V), ([some (.ref a), some (.ref g), some (.ref u), some (.ref d), some (.int i), some (.int (atF ns (6 + i)))] : L2.St) = [some (.ref a), some (.ref g), some (.ref u), some (.ref d), v4, v5] ∧
            Ex H (upd H2 d (.dK (putK (dRow (gs.take i) row) (Sum.inr gp : Key) (.int x)))) ∧ (upd H2 d (.dK (putK (dRow (gs.take i) row) (Sum.inr gp : Key) (.int x)))) d = some (.dK (dRow (gs.take (i + 1)) row')) ∧ row'.length = i + 1 := fun x H2 e2 =>
          ⟨row ++ [x], _, _, rfl, (E1.trans e2).mut hd, by rw [upd_same, dRow_put nd hgp rl], by rw [List.length_append, List.length_singleton, rl]⟩
        refine ⟨_, rfl, _, _, rfl, rfl, (by show (0 : Int) < 3; decide), rfl, _, rfl, ?_⟩
        rw [int_eq]
        by_cases h0 : atF ns (6 + i) % 3 = 0
        · rw [decide_eq_true h0]
          have ul : (0 : Int) < (((us.map V.int).length : Nat) : Int) := by
            have := List.length_pos_iff.mpr une
            rw [List.length_map]
            omega
          obtain ⟨y, hy, ym⟩ := pool_at (pool := us.map V.int) (i := atF ns (6 + i) / 3) (fun z => une (List.map_eq_nil_iff.mp z))
          obtain ⟨x, _, rfl⟩ := List.mem_map.mp ym
          refine iteT ⟨_, rfl, _, rfl, _, _, rfl, rfl, ⟨by decide, by decide⟩, _, rfl, u, _, rfl, .inl (ex_l E1 hU), _, _, rfl, rfl, ul, u, _, _, _, rfl, rfl, ex_l E1 hU, hy, ?_⟩
          exact ⟨_, rfl, _, rfl, _, rfl, g, _, _, _, rfl, rfl, hG1, gat, d, _, rfl, DPut.k (k := Sum.inr gp) hD1 dl, done x H1 (Ex.refl H1)⟩
        · rw [decide_eq_false h0]
          refine iteF ⟨_, rfl, _, _, rfl, rfl, (by show (0 : Int) < 3; decide), rfl, _, rfl, ?_⟩
          rw [int_eq]
          have last : ∀ D : Ends, D.nx = (fun σ' H2 => ∃ (row : List Int) (v4 v5 : Option V), σ' = [some (.ref a), some (.ref g), some (.ref u), some (.ref d), v4, v5] ∧ Ex H H2 ∧ H2 d = some (.dK (dRow (gs.take (i + 1)) row)) ∧ row.length = i + 1) → sDPut (tVar 3) (tOp (rIxL K) (tVar 1) (tVar 4)) (tCall spValue [] E0 (tCons (tOp (rI CDiv fun i j => .int (i / j)) (tVar 5) (tC (.int 3))) tNil)) D
              [some (.ref a), some (.ref g), some (.ref u), some (.ref d), some (.int i), some (.int (atF ns (6 + i)))] H1 := by
            intro D hn
            refine ⟨_, rfl, _, _, rfl, rfl, ⟨by decide, by decide⟩, _, rfl, fun H2 e2 => ?_⟩
            refine ⟨_, rfl, _, rfl, _, rfl, g, _, _, _, rfl, rfl, ex_l e2 hG1, gat, d, _, rfl, DPut.k (k := Sum.inr gp) (e2 _ _ hD1) dl, ?_⟩
            rw [hn]
            exact done _ H2 e2
          by_cases h1 : atF ns (6 + i) % 3 = 1
          · rw [decide_eq_true h1]
            refine iteT ⟨_, rfl, _, _, rfl, rfl, _, rfl, ?_⟩
            by_cases hk : (0 : Int) < (i : Int)
            · rw [decide_eq_true hk]
              have q1 := Int.emod_nonneg (atF ns (6 + i) / 3) (show (i : Int) ≠ 0 by omega)
              have q2 := Int.emod_lt_of_pos (atF ns (6 + i) / 3) hk
              obtain ⟨j, hj, jl⟩ : ∃ j : Nat, atF ns (6 + i) / 3 % (i : Int) = (j : Int) ∧ j < i := ⟨(atF ns (6 + i) / 3 % (i : Int)).toNat, by omega, by omega⟩
              obtain ⟨gj, hgj⟩ : ∃ gj, gs[j]? = some gj := ⟨_, List.getElem?_eq_getElem (by omega)⟩
              obtain ⟨x, hx⟩ : ∃ x, row[j]? = some x := ⟨_, List.getElem?_eq_getElem (by omega)⟩
              have gatj : atI (gs.map V.str) (atF ns (6 + i) / 3 % (i : Int)) = some (.str gj) := by
                rw [hj]
                exact atI_nat (by rw [List.getElem?_map, hgj]; rfl)
              refine iteT ⟨_, rfl, _, rfl, _, rfl, _, _, rfl, rfl, ⟨by decide, by decide⟩, _, rfl, _, _, rfl, rfl, hk, g, _, _, _, rfl, rfl, hG1, gatj, d, .int x, rfl, ?_, ?_⟩
              · rw [← dRow_take nd hgj jl hx]
                exact DGet.k (k := Sum.inr gj) hD1
              · exact ⟨_, rfl, _, rfl, _, rfl, g, _, _, _, rfl, rfl, hG1, gat, d, _, rfl, DPut.k (k := Sum.inr gp) hD1 dl, done x H1 (Ex.refl H1)⟩
            · rw [decide_eq_false hk]
              exact iteF (last _ rfl)
          · rw [decide_eq_false h1]
            exact iteF (last _ rfl)
    · rintro σ H' ⟨row, v4, v5, rfl, e, hD, rl⟩
      rw [List.take_length] at hD
      exact ⟨_, rfl, kq _ H' e ⟨d, row, rfl, hD, rl⟩⟩
end
end K17
/-! Whether two fillings are alike; the exchanged filling. -/
namespace K17
open PySem PySem.Spec PyProof.Rows L2 Evl
theorem dget_row {H : Hp} {o : Addr} {gs : List Str} {r : List Int} {i : Nat} {g : Str} {x : Int} (h : Rd H o (.dK (dRow gs r))) (nd : gs.Nodup) (hg : gs[i]? = some g) (hx : r[i]? = some x) : DGet H o (.str g) (some (.int x)) :=
  .inl ⟨_, Sum.inr g, h, rfl, (dRow_at nd hg hx).symm⟩
theorem test_iff (x v y u : Int) : (!decide (V.bl (decide (V.int x = V.int v)) = V.bl (decide (V.int y = V.int u)))) = !decide (x = v ↔ y = u) := by
  rw [int_eq, int_eq]
  by_cases h1 : x = v <;> by_cases h2 : y = u <;> simp [h1, h2]
section
variable {P : Program} {w : World} {K : PySem.W.Frag} {mg : Str → Option Value} {base : Heap} {c : Cl} {f : Addr} {fd : FuncData}
abbrev nAlike : List Str := ["_law_gaps", "_law_values_here", "_law_one", "_law_other", "_law_gap", "_law_value_here", "_law_further"]
theorem scAlike : FnScope nAlike ["_law_gaps", "_law_values_here", "_law_one", "_law_other"] (defScope sAlike) := ⟨rfl, rfl, rfl, by decide +kernel, rfl, by decide +kernel, by decide +kernel⟩
theorem ok_alike (F : Fun K "_law_alike" "_law_alike" sAlike f fd) : FnOk P w K mg base CX0 1 f fd ["_law_gaps", "_law_values_here", "_law_one", "_law_other"] (spAlike K) := by
  refine F.ok scAlike (fun vs H Q E h => ?_) (fun cdv A outer s H vs Q E hr h => ?_)
  · obtain ⟨g, u, o1, o2, gs, us, r, s, rfl, _⟩ := h
    rfl
  · obtain ⟨g, u, o1, o2, gs, us, r, t, rfl, hG, nd, hU, h1, h2, l1, l2, kq⟩ := h
    have hu := hu_of hr
    refine ⟨_, pss_cons (ps_for PassesOwn.never rfl (pi_list (pv 0)) (pg_name (i := 4) scAlike.nd rfl (Or.inl rfl))
        (pss_cons (ps_for PassesOwn.never rfl (pi_list (pv 1)) (pg_name (i := 5) scAlike.nd rfl (Or.inl rfl))
          (pss_one (ps_if (pt_cmpR op_ne (pe_cmpR op_eq (pe_dget hu (pv 2) (pv 4) (fun _ _ => rfl)) (pv 5) (nomark _)) (pe_cmpR op_eq (pe_dget hu (pv 3) (pv 4) (fun _ _ => rfl)) (pv 5) (nomark _)) (nomark _)) (pss_one (ps_ret pe_bl)) pss_nil)))
        (pss_one (ps_for PassesOwn.never rfl (pi_list (pv 0)) (pg_name (i := 6) scAlike.nd rfl (Or.inl rfl))
          (pss_one (ps_if (pt_cmpR op_ne (pe_cmpR op_eq (pe_dget hu (pv 2) (pv 4) (fun _ _ => rfl)) (pe_dget hu (pv 2) (pv 6) (fun _ _ => rfl)) (nomark _)) (pe_cmpR op_eq (pe_dget hu (pv 3) (pv 4) (fun _ _ => rfl)) (pe_dget hu (pv 3) (pv 6) (fun _ _ => rfl)) (nomark _)) (nomark _)) (pss_one (ps_ret pe_bl)) pss_nil))))))
      (pss_one (ps_ret pe_bl)), ?_⟩
    have no : ¬ AlikeR us r t → Q (.bl false) H := fun h => kq false ⟨(fun e => by cases e), fun a => (h a).elim⟩
    refine ⟨_, rfl, g, rfl, ⟨_, hG⟩, for_list (K := K) (a := g) (xs := gs.map V.str) (fun i σ H' => H' = H ∧ ∃ (v4 v5 v6 : Option V), σ = [some (.ref g), some (.ref u), some (.ref o1), some (.ref o2), v4, v5, v6] ∧
        ∀ i' < i, ∀ (x y : Int), r[i']? = some x → t[i']? = some y → (∀ v ∈ us, (x = v ↔ y = v)) ∧ ∀ (j : Nat) (x' y' : Int), r[j]? = some x' → t[j]? = some y' → (x = x' ↔ y = y'))
      ⟨rfl, none, none, none, rfl, fun i h => absurd h (Nat.not_lt_zero _)⟩ (fun i σ H' _ ⟨e, _⟩ => by rw [e]; exact hG) ?_ ?_⟩
    · rintro i z σ H' hi ⟨rfl, v4, v5, v6, rfl, inv⟩
      rw [List.getElem?_map] at hi
      cases hgi : gs[i]? with
      | none => rw [hgi] at hi; cases hi
      | some gp =>
        rw [hgi] at hi
        have ez := Option.some.inj hi
        subst ez
        have hil : i < gs.length := (List.getElem?_eq_some_iff.mp hgi).1
        obtain ⟨x, hx⟩ : ∃ x, r[i]? = some x := ⟨_, List.getElem?_eq_getElem (by omega)⟩
        obtain ⟨y, hy⟩ : ∃ y, t[i]? = some y := ⟨_, List.getElem?_eq_getElem (by omega)⟩
        have D1 := dget_row (Rd.of h1) nd hgi hx
        have D2 := dget_row (Rd.of h2) nd hgi hy
        -- the values
        refine ⟨_, rfl, u, rfl, ⟨_, hU⟩, for_list (K := K) (a := u) (xs := us.map V.int) (fun j σ H2 => H2 = H' ∧ ∃ (v5 : Option V), σ = [some (.ref g), some (.ref u), some (.ref o1), some (.ref o2), some (.str gp), v5, v6] ∧ ∀ j' < j, ∀ v, us[j']? = some v → (x = v ↔ y = v))
          ⟨rfl, v5, rfl, fun i h => absurd h (Nat.not_lt_zero _)⟩ (fun j σ H2 _ ⟨e, _⟩ => by rw [e]; exact hU) ?_ ?_⟩
        · rintro j z σ H2 hj ⟨rfl, v5, rfl, inv2⟩
          rw [List.getElem?_map] at hj
          cases huj : us[j]? with
          | none => rw [huj] at hj; cases hj
          | some v =>
            rw [huj] at hj
            have ez := Option.some.inj hj
            subst ez
            refine ⟨_, rfl, _, rfl, o1, _, rfl, D1, _, rfl, rfl, _, rfl, _, rfl, o2, _, rfl, D2, _, rfl, rfl, rfl, _, rfl, ?_⟩
            rw [test_iff]
            by_cases hxy : x = v ↔ y = v
            · rw [decide_eq_true hxy]
              refine iteF ⟨rfl, _, rfl, fun j' hj' v' hv' => ?_⟩
              rcases Nat.lt_succ_iff_lt_or_eq.mp hj' with hlt | rfl
              · exact inv2 j' hlt v' hv'
              · rw [huj] at hv'
                rw [← Option.some.inj hv']
                exact hxy
            · rw [decide_eq_false hxy]
              exact iteT (no fun al => hxy ((al.2 i x y hx hy).1 v (List.mem_of_getElem? huj)))
        · rintro σ H2 ⟨rfl, v5, rfl, inv2⟩
          -- the gaps
          refine ⟨_, rfl, g, rfl, ⟨_, hG⟩, for_list (K := K) (a := g) (xs := gs.map V.str) (fun j σ H3 => H3 = H2 ∧ ∃ (v6 : Option V), σ = [some (.ref g), some (.ref u), some (.ref o1), some (.ref o2), some (.str gp), v5, v6] ∧ ∀ j' < j, ∀ (x' y' : Int), r[j']? = some x' → t[j']? = some y' → (x = x' ↔ y = y'))
            ⟨rfl, v6, rfl, fun i h => absurd h (Nat.not_lt_zero _)⟩ (fun j σ H3 _ ⟨e, _⟩ => by rw [e]; exact hG) ?_ ?_⟩
          · rintro j z σ H3 hj ⟨rfl, v6, rfl, inv3⟩
            rw [List.getElem?_map] at hj
            cases hgj : gs[j]? with
            | none => rw [hgj] at hj; cases hj
            | some gq =>
              rw [hgj] at hj
              have ez := Option.some.inj hj
              subst ez
              have hjl : j < gs.length := (List.getElem?_eq_some_iff.mp hgj).1
              obtain ⟨x', hx'⟩ : ∃ x, r[j]? = some x := ⟨_, List.getElem?_eq_getElem (by omega)⟩
              obtain ⟨y', hy'⟩ : ∃ y, t[j]? = some y := ⟨_, List.getElem?_eq_getElem (by omega)⟩
              have D3 := dget_row (Rd.of h1) nd hgj hx'
              have D4 := dget_row (Rd.of h2) nd hgj hy'
              refine ⟨_, rfl, _, rfl, o1, _, rfl, D1, _, rfl, _, rfl, o1, _, rfl, D3, rfl, _, rfl, _, rfl, o2, _, rfl, D2, _, rfl, _, rfl, o2, _, rfl, D4, rfl, rfl, _, rfl, ?_⟩
              rw [test_iff]
              by_cases hxy : x = x' ↔ y = y'
              · rw [decide_eq_true hxy]
                refine iteF ⟨rfl, _, rfl, fun j' hj' a b ha hb => ?_⟩
                rcases Nat.lt_succ_iff_lt_or_eq.mp hj' with hlt | rfl
                · exact inv3 j' hlt a b ha hb
                · rw [hx'] at ha
                  rw [hy'] at hb
                  rw [← Option.some.inj ha, ← Option.some.inj hb]
                  exact hxy
              · rw [decide_eq_false hxy]
                exact iteT (no fun al => hxy ((al.2 i x y hx hy).2 j x' y' hx' hy'))
          · rintro σ H3 ⟨rfl, v6, rfl, inv3⟩
            refine ⟨rfl, _, _, _, rfl, fun i' hi' a b ha hb => ?_⟩
            rcases Nat.lt_succ_iff_lt_or_eq.mp hi' with hlt | rfl
            · exact inv i' hlt a b ha hb
            · rw [hx] at ha
              rw [hy] at hb
              rw [← Option.some.inj ha, ← Option.some.inj hb]
              refine ⟨fun v hv => ?_, fun j x' y' hx' hy' => ?_⟩
              · obtain ⟨j, hj⟩ := List.getElem?_of_mem hv
                exact inv2 j (by rw [List.length_map]; exact (List.getElem?_eq_some_iff.mp hj).1) v hj
              · exact inv3 j (by rw [List.length_map]; have := (List.getElem?_eq_some_iff.mp hx').1; omega) x' y' hx' hy'
    · rintro σ H' ⟨rfl, v4, v5, v6, rfl, inv⟩
      refine kq true ⟨fun _ => ⟨by omega, fun i x y hx hy => inv i ?_ x y hx hy⟩, fun _ => rfl⟩
      rw [List.length_map]
      have := (List.getElem?_eq_some_iff.mp hx).1
      omega
end
end K17
/-! The exchanged filling. -/
namespace K17
open PySem PySem.Spec PyProof.Rows L2 Evl
def exF (x : Int) : Int := 3 * (10 : Int) ^ 59 + x % (10 : Int) ^ 59
def exG (us : List Int) (x : Int) : Int := if x ∈ us then x else exF x
theorem dRow_vals : ∀ {gs : List Str} {row : List Int}, gs.length = row.length → (dRow gs row).map (·.2) = row.map V.int
  | [], [], _ => rfl
  | [], _ :: _, h => by cases h
  | _ :: _, [], h => by cases h
  | g :: gs, x :: row, h => by
    have ih := dRow_vals (gs := gs) (row := row) (Nat.succ.inj h)
    show V.int x :: (dRow gs row).map (·.2) = V.int x :: row.map V.int
    rw [ih]
theorem dRow_idx {gs : List Str} {row : List Int} {i : Nat} {k : Key} {v : V} (h : (dRow gs row)[i]? = some (k, v)) : ∃ g x, gs[i]? = some g ∧ row[i]? = some x ∧ k = Sum.inr g ∧ v = .int x := by
  unfold dRow at h
  rw [List.getElem?_map] at h
  cases hz : (gs.zip row)[i]? with
  | none => rw [hz] at h; cases h
  | some p =>
    rw [hz] at h
    obtain ⟨g, x⟩ := p
    have e := Option.some.inj h
    obtain ⟨q1, q2⟩ := List.getElem?_zip_eq_some.mp hz
    exact ⟨g, x, q1, q2, (congrArg Prod.fst e).symm, (congrArg Prod.snd e).symm⟩
/-- the newest value put anew -/
theorem dRow_again {gs : List Str} {row : List Int} {i : Nat} {g : Str} (nd : gs.Nodup) (hg : gs[i]? = some g) (hl : row.length = i) (x y : Int) : putK (dRow (gs.take (i + 1)) (row ++ [x])) (Sum.inr g : Key) (.int y) = dRow (gs.take (i + 1)) (row ++ [y]) := by
  have hi : i < gs.length := (List.getElem?_eq_some_iff.mp hg).1
  have tk : gs.take (i + 1) = gs.take i ++ [g] := by rw [List.take_add_one, hg]; rfl
  have hlen : (gs.take i).length = row.length := by rw [List.length_take]; omega
  have gno : g ∉ gs.take i := fun hm => by
    obtain ⟨j, hj, ej⟩ := of_take hm
    obtain ⟨l1, q1⟩ := List.getElem?_eq_some_iff.mp ej
    obtain ⟨l2, q2⟩ := List.getElem?_eq_some_iff.mp hg
    have := (List.getElem_inj nd).mp (q1.trans q2.symm)
    omega
  rw [tk, dRow_snoc hlen, dRow_snoc hlen]
  unfold putK
  rw [if_pos (List.any_eq_true.mpr ⟨(Sum.inr g, V.int x), List.mem_append_right _ List.mem_cons_self, decide_eq_true rfl⟩), List.map_append]
  have same : (dRow (gs.take i) row).map (fun kv => if kv.1 = (Sum.inr g : Key) then (kv.1, V.int y) else kv) = dRow (gs.take i) row := by
    refine (List.map_congr_left fun kv hk => ?_).trans (List.map_id _)
    unfold dRow at hk
    obtain ⟨p, hp, rfl⟩ := List.mem_map.mp hk
    have hm : p.1 ∈ gs.take i := (List.of_mem_zip (a := p.1) (b := p.2) hp).1
    rw [if_neg fun e => gno (by have q := Sum.inr.inj e; rw [← q]; exact hm)]
    rfl
  rw [same]
  show _ ++ [if (Sum.inr g : Key) = Sum.inr g then ((Sum.inr g : Key), V.int y) else _] = _
  rw [if_pos rfl]
theorem lock_out {H H' : Hp} {d : Addr} {o : Obj} {u : HO} (h : H d = some u) (e : Ex (upd H d (.frz o u)) H') : Ex H (upd H' d u) := by
  intro b v hb
  by_cases z : b = d
  · rw [z, upd_same]
    rw [z, h] at hb
    exact hb
  · rw [upd_ne z]
    exact e b v (by rw [upd_ne z]; exact hb)
theorem uniq_len {us l : List Int} (nd : us.Nodup) (h : ∀ k, k ∈ us ↔ k ∈ l) : us.length = (uniq l).length :=
  Nat.le_antisymm (nodup_le nd fun x hx => mem_uniq.mpr ((h x).mp hx)) (nodup_le (nodup_uniq l) fun x hx => (h x).mpr (mem_uniq.mp hx))
def spExch (K : PySem.W.Frag) : Sp := fun vs H Q _ => ∃ (d u : Addr) (gs : List Str) (us r : List Int), vs = [.ref d, .ref u] ∧ H d = some (.dK (dRow gs r)) ∧ gs.Nodup ∧ r.length = gs.length ∧ gs.length ≤ 3 ∧ SqL K H u (us.map V.int) ∧
  RetP (fun v H' => ∃ (p : Addr) (r' : List Int), v = .ref p ∧ H' p = some (.dK (dRow gs r')) ∧ AlikeR us r' r) H Q
section
variable {P : Program} {w : World} {K : PySem.W.Frag} {mg : Str → Option Value} {base : Heap} {c : Cl} {f : Addr} {fd : FuncData}
abbrev nExch : List Str := ["_law_filling_here", "_law_values_here", "_law_found", "_law_gap"]
theorem scExch : FnScope nExch ["_law_filling_here", "_law_values_here"] (defScope sExch) := ⟨rfl, rfl, rfl, by decide +kernel, rfl, by decide +kernel, by decide +kernel⟩
theorem pos59 : (0 : Int) < (10 : Int) ^ (59 : Int).toNat := by decide
theorem ok_exch (F : Fun K "_law_exchanged" "_law_exchanged" sExch f fd) (T : Txt K mg c) : FnOk P w K mg base CX0 1 f fd ["_law_filling_here", "_law_values_here"] (spExch K) := by
  refine F.ok scExch (fun vs H Q E h => ?_) (fun cdv A outer s H vs Q E hr h => ?_)
  · obtain ⟨d, u, gs, us, r, rfl, _⟩ := h
    rfl
  · obtain ⟨d, u, gs, us, r, rfl, hD, nd, rl, g3, hU, kq⟩ := h
    have hu := hu_of hr
    refine ⟨_, pss_cons (ps_set (i := 2) scExch.nd rfl (Or.inl rfl) pe_dnewK)
      (pss_cons (ps_lock (ps_for PassesOwn.never rfl (pi_keys (pv 0)) (pg_name (i := 3) scExch.nd rfl (Or.inl rfl))
        (pss_cons (ps_dput hu (pv 2) (pv 3) (pe_dget hu (pv 0) (pv 3) (fun _ _ => rfl)) rfl)
        (pss_one (ps_if (pt_cmpR op_notIn_seq (pe_dget hu (pv 0) (pv 3) (fun _ _ => rfl)) (pv 1) rfl)
          (pss_cons (ps_dput hu (pv 2) (pv 3) (pe_op op_add (pe_op op_mul pe_int (pe_op op_pow pe_int pe_int)) (pe_op op_mod (pe_dget hu (pv 0) (pv 3) (fun _ _ => rfl)) (pe_op op_pow pe_int pe_int))) rfl)
          (pss_one (ps_if (PW.pt (pw_or (pt_cmpR op_in_seq (pe_dget hu (pv 2) (pv 3) (fun _ _ => rfl)) (pv 1) rfl) (pw_or (pt_cmpR op_ge (pe_dget hu (pv 0) (pv 3) (fun _ _ => rfl)) (pe_op op_pow pe_int pe_int) (nomark _)) (pw_or1 (pt_cmpR op_le (pe_dget hu (pv 0) (pv 3) (fun _ _ => rfl)) (pe_un un_neg (pe_op op_pow pe_int pe_int)) (nomark _))))))
            (pss_one (ps_ret (pe_callTy call_dictD (by rfl) T.fDict (by decide +kernel) (pa_cons (pv 0) pa_nil)))) pss_nil))) pss_nil)))))
      (pss_cons (ps_if (pt_cmpR op_ne (pe_lenSetU rfl (by rfl) T.fLen (by rfl) T.fSet (pe_listVals rfl (pv 2) (by rfl) T.fList (by decide +kernel))) (pe_lenSetU rfl (by rfl) T.fLen (by rfl) T.fSet (pe_listVals rfl (pv 0) (by rfl) T.fList (by decide +kernel))) (nomark _))
        (pss_one (ps_ret (pe_callTy call_dictD (by rfl) T.fDict (by decide +kernel) (pa_cons (pv 0) pa_nil)))) pss_nil)
      (pss_one (ps_ret (pv 2))))), ?_⟩
    intro fo hfo
    have nfd : fo ≠ d := fun z => by rw [z, hD] at hfo; cases hfo
    refine ⟨d, .dK (dRow gs r), by rw [upd_ne (Ne.symm nfd)]; exact hD, trivial, fun od => ?_⟩
    have glen : (dRow gs r).length = gs.length := dRow_len rl.symm
    have EB : Ex (upd H d (.frz od (.dK (dRow gs r)))) (upd (upd H fo (.dK [])) d (.frz od (.dK (dRow gs r)))) := by
      intro b v hb
      by_cases z : b = d
      · rw [z, upd_same] at hb
        rw [z, upd_same]
        exact hb
      · rw [upd_ne z] at hb
        rw [upd_ne z, upd_ne (ne_of_none hb hfo)]
        exact hb
    have HBf : (upd H d (.frz od (.dK (dRow gs r)))) fo = none := by
      rw [upd_ne nfd]
      exact hfo
    have HBd : (upd H d (.frz od (.dK (dRow gs r)))) d = some (.frz od (.dK (dRow gs r))) := upd_same
    have undo : ∀ (H' : Hp) (p : Addr), Ex (upd H d (.frz od (.dK (dRow gs r)))) H' → H' p = none → ∀ row, AlikeR us row r → Q (.ref p) (upd (upd H' p (.dK (dRow gs row))) d (.dK (dRow gs r))) := by
      intro H' p e hp row al
      have npd : p ≠ d := fun z => by
        rw [z, e _ _ HBd] at hp
        cases hp
      exact kq _ _ (lock_out (o := od) hD (e.trans (Ex.new hp))) ⟨p, row, rfl, by rw [upd_ne npd, upd_same], al⟩
    -- U: the values are read all the same
    have hU' : ∀ H', Ex (upd H d (.frz od (.dK (dRow gs r)))) H' → SqL K H' u (us.map V.int) := by
      intro H' e
      have hb : SqL K (upd H d (.frz od (.dK (dRow gs r)))) u (us.map V.int) := by
        rcases hU with (hU | ⟨o, hU⟩) | hU
        · exact .inl (.inl (by rw [upd_ne (ne_of hU hD (by intro q; cases q))]; exact hU))
        · exact .inl (.inr ⟨o, by rw [upd_ne (ne_of hU hD (by intro q; cases q))]; exact hU⟩)
        · exact .inr hU
      exact ex_l e hb
    refine ⟨_, rfl, d, od, rfl, .inl ⟨_, upd_same, for_it walk_keys (fun i σ H' => ∃ v3 : Option V, σ = [some (.ref d), some (.ref u), some (.ref fo), v3] ∧ Ex (upd H d (.frz od (.dK (dRow gs r)))) H' ∧ H' fo = some (.dK (dRow (gs.take i) ((r.take i).map (exG us)))) ∧
        ∀ i' < i, ∀ x, r[i']? = some x → x ∉ us → exF x ∉ us)
      ⟨none, rfl, EB, by rw [upd_ne nfd, upd_same]; rfl, fun i h => absurd h (Nat.not_lt_zero _)⟩ (fun i σ H' _ ⟨_, _, e, _⟩ => e _ _ HBd) ?_ ?_⟩⟩
    · rintro i z σ H' H'' hi ⟨v3, rfl, e, hF, inv⟩ ⟨rfl, k, v, hkv, rfl⟩
      obtain ⟨g, x, hg, hx, rfl, rfl⟩ := dRow_idx hkv
      have hil : i < gs.length := (List.getElem?_eq_some_iff.mp hg).1
      have mlen : ((r.take i).map (exG us)).length = i := by
        rw [List.length_map, List.length_take]
        omega
      have Dx : ∀ {H2 : Hp}, Ex (upd H d (.frz od (.dK (dRow gs r)))) H2 → DGet H2 d (.str g) (some (.int x)) := fun e2 => dget_row (.inr ⟨od, e2 _ _ HBd⟩) nd hg hx
      have few : ∀ row : List Int, row.length = i → (dRow (gs.take i) row).length < sizeLine := fun row hrow => small1000 (by
        rw [dRow_len (by rw [List.length_take]; omega), List.length_take]
        omega)
      have rt : (r.take (i + 1)).map (exG us) = (r.take i).map (exG us) ++ [exG us x] := by
        rw [List.take_add_one, hx, Option.toList_some, List.map_append]
        rfl
      refine ⟨_, rfl, _, rfl, d, _, rfl, Dx e, _, rfl, _, rfl, fo, _, rfl, DPut.k (k := Sum.inr g) hF (few _ mlen), ?_⟩
      rw [dRow_put nd hg mlen]
      have e2 : Ex (upd H d (.frz od (.dK (dRow gs r)))) (upd H'' fo (.dK (dRow (gs.take (i + 1)) ((r.take i).map (exG us) ++ [x])))) := e.mut HBf
      refine ⟨_, rfl, _, rfl, d, _, rfl, Dx e2, _, rfl, u, _, rfl, .inl (hU' _ e2), rfl, flat_ints us, _, rfl, ?_⟩
      rw [inV_ints]
      show if (!decide (x ∈ us)) = true then _ else _
      by_cases hm : x ∈ us
      · rw [decide_eq_true hm]
        refine iteF ⟨_, rfl, e2, ?_, fun i' hi' y hy hy2 => ?_⟩
        · have eg : exG us x = x := by
            unfold exG
            rw [if_pos hm]
          rw [upd_same, rt, eg]
        · rcases Nat.lt_succ_iff_lt_or_eq.mp hi' with hlt | rfl
          · exact inv i' hlt y hy hy2
          · rw [hx] at hy
            rw [← Option.some.inj hy] at hy2
            exact (hy2 hm).elim
      · rw [decide_eq_false hm]
        refine iteT ⟨_, _, rfl, rfl, ⟨by decide, by decide, by decide⟩, _, _, rfl, rfl, .inl ⟨by decide, by decide⟩, _, rfl, _, rfl, d, _, rfl, Dx e2, _, _, rfl, rfl, ⟨by decide, by decide, by decide⟩, _, _, rfl, rfl, pos59, _, _, rfl, rfl,
          _, rfl, _, rfl, fo, _, rfl, DPut.k (k := Sum.inr g) upd_same (small1000 (by rw [dRow_len (by rw [List.length_take, List.length_append, mlen, List.length_singleton]; omega), List.length_take]; omega)), ?_⟩
        rw [dRow_again nd hg mlen, upd_upd]
        have e3 : Ex (upd H d (.frz od (.dK (dRow gs r)))) (upd H'' fo (.dK (dRow (gs.take (i + 1)) ((r.take i).map (exG us) ++ [exF x])))) := e.mut HBf
        have Df : DGet (upd H'' fo (.dK (dRow (gs.take (i + 1)) ((r.take i).map (exG us) ++ [exF x])))) fo (.str g) (some (.int (exF x))) := by
          refine dget_row (i := i) (Rd.of upd_same) (nd.sublist (List.take_sublist _ _)) ?_ ?_
          · rw [List.getElem?_take, if_pos (Nat.lt_succ_self i)]
            exact hg
          · rw [List.getElem?_append_right (by omega), mlen, Nat.sub_self]
            rfl
        have leave : ∀ (D : Ends), D.rt = (fun v H' => H' d = some (.frz od (.dK (dRow gs r))) ∧ Q v (upd H' d (.dK (dRow gs r)))) → ∀ σ : L2.St, σ[0]? = some (some (.ref d)) →
            tRet (tCB (fun xs H Q => ∃ (a : Addr) (kvs : List (Key × V)), xs = [.ref a] ∧ Rd H a (.dK kvs) ∧ ∀ p, H p = none → Q (.ref p) (upd H p (.dK kvs))) (tCons (tVar 0) tNil)) D σ (upd H'' fo (.dK (dRow (gs.take (i + 1)) ((r.take i).map (exG us) ++ [exF x])))) := by
          intro D hD' σ hσ
          refine ⟨_, hσ, d, _, rfl, .inr ⟨od, e3 _ _ HBd⟩, fun p hp => ?_⟩
          rw [hD']
          have npd : p ≠ d := fun z => by
            rw [z, e3 _ _ HBd] at hp
            cases hp
          exact ⟨by rw [upd_ne (Ne.symm npd)]; exact e3 _ _ HBd, undo _ p e3 hp r (AlikeR.refl us r)⟩
        refine ⟨_, rfl, _, rfl, fo, _, rfl, Df, _, rfl, u, _, rfl, .inl (hU' _ e3), rfl, flat_ints us, _, rfl, ?_⟩
        rw [inV_ints]
        show if decide (exF x ∈ us) = true then _ else _
        by_cases hf : exF x ∈ us
        · rw [decide_eq_true hf]
          exact iteT (iteT (leave _ rfl _ rfl))
        · rw [decide_eq_false hf]
          refine iteF ⟨_, rfl, _, rfl, d, _, rfl, Dx e3, _, _, rfl, rfl, ⟨by decide, by decide, by decide⟩, _, _, rfl, rfl, _, rfl, ?_⟩
          refine ite2 (fun _ => iteT (leave _ rfl _ rfl)) fun _ => ?_
          refine ⟨_, rfl, _, rfl, d, _, rfl, Dx e3, _, _, rfl, rfl, ⟨by decide, by decide, by decide⟩, _, rfl, _, _, rfl, rfl, _, rfl, ?_⟩
          refine ite2 (fun _ => leave _ rfl _ rfl) fun _ => ?_
          refine ⟨_, rfl, e3, ?_, fun i' hi' y hy hy2 => ?_⟩
          · have eg : exG us x = exF x := by
              unfold exG
              rw [if_neg hm]
            rw [upd_same, rt, eg]
            rfl
          · rcases Nat.lt_succ_iff_lt_or_eq.mp hi' with hlt | rfl
            · exact inv i' hlt y hy hy2
            · rw [hx] at hy
              rw [← Option.some.inj hy]
              exact hf
    · rintro σ H' ⟨v3, rfl, e, hF, inv⟩
      rw [glen, List.take_length, List.take_of_length_le (by omega)] at hF
      refine ⟨e _ _ HBd, ?_⟩
      have E1 : Ex H (upd H' d (.dK (dRow gs r))) := lock_out (o := od) hD e
      have hF1 : (upd H' d (.dK (dRow gs r))) fo = some (.dK (dRow gs (r.map (exG us)))) := by
        rw [upd_ne nfd]
        exact hF
      have hD1 : (upd H' d (.dK (dRow gs r))) d = some (.dK (dRow gs r)) := upd_same
      generalize upd H' d (.dK (dRow gs r)) = H2 at E1 hF1 hD1 ⊢
      have v1 : (dRow gs (r.map (exG us))).map (·.2) = (r.map (exG us)).map V.int := dRow_vals (by rw [List.length_map]; omega)
      have v2 : (dRow gs r).map (·.2) = r.map V.int := dRow_vals rl.symm
      refine ⟨_, rfl, fo, _, rfl, hF1, fun q1 hq1 => ⟨q1, r.map (exG us), rfl, ?_, by rw [List.length_map]; omega, fun u1 n1 k1 => ?_⟩⟩
      · rw [v1]
        exact sq_of upd_same
      · have X1 := Ex.new (o := .lst ((dRow gs (r.map (exG us))).map (·.2))) hq1
        refine ⟨_, rfl, d, _, rfl, X1 _ _ hD1, fun q2 hq2 => ⟨q2, r, rfl, ?_, by omega, fun u2 n2 k2 => ⟨rfl, _, rfl, ?_⟩⟩⟩
        · rw [v2]
          exact sq_of upd_same
        · have X2 := X1.trans (Ex.new (o := .lst ((dRow gs r).map (·.2))) hq2)
          rw [int_eq]
          by_cases hl : (u1.length : Int) = (u2.length : Int)
          · rw [decide_eq_true hl]
            refine iteF ⟨_, rfl, kq _ _ (E1.trans X2) ⟨fo, r.map (exG us), rfl, X2 _ _ hF1, ?_⟩⟩
            have l1 := uniq_len n1 k1
            have l2 := uniq_len n2 k2
            refine alike_map (inj_of_uniq (by omega)) (fun x _ hx => ?_) fun x hx hn => ?_
            · unfold exG
              rw [if_pos hx]
            · unfold exG
              rw [if_neg hn]
              obtain ⟨i, hi⟩ := List.getElem?_of_mem hx
              refine inv i ?_ x hi hn
              rw [glen]
              have := (List.getElem?_eq_some_iff.mp hi).1
              omega
          · rw [decide_eq_false hl]
            refine iteT ⟨_, rfl, d, _, rfl, .inl (X2 _ _ hD1), fun p hp => kq _ _ ((E1.trans X2).trans (Ex.new hp)) ⟨p, r, rfl, upd_same, AlikeR.refl us r⟩⟩
end
end K17
/-! What the law needs besides. -/
namespace K17
open PySem PySem.Spec PyProof.Rows L2 Evl
/-! ### a row as a filling -/
def fillF (gs : List Str) (row : List Int) (z : Str) : Int := match valV (dRow gs row) (Sum.inr z : Key) with
  | some (.int x) => x
  | _ => 0
theorem fill_at {gs : List Str} {row : List Int} {i : Nat} {g : Str} {x : Int} (nd : gs.Nodup) (hg : gs[i]? = some g) (hx : row[i]? = some x) : fillF gs row g = x := by
  unfold fillF
  rw [dRow_at nd hg hx]
theorem fill_ok {H : Hp} {p : Addr} {gs : List Str} {row : List Int} {us : List Int} {cs : List V} (nd : gs.Nodup) (hl : row.length = gs.length) (hp : H p = some (.dK (dRow gs row))) (hs : ∀ y ∈ cs, y ∈ gs.map V.str ++ us.map V.int) : FillAt H p (fillF gs row) cs := by
  refine ⟨_, hp, fun z hz => ?_⟩
  rcases List.mem_append.mp (hs _ hz) with m | m
  · obtain ⟨g, hg, e⟩ := List.mem_map.mp m
    injection e with e
    subst e
    obtain ⟨i, hi⟩ := List.getElem?_of_mem hg
    have hil := (List.getElem?_eq_some_iff.mp hi).1
    obtain ⟨x, hx⟩ : ∃ x, row[i]? = some x := ⟨_, List.getElem?_eq_getElem (by omega)⟩
    rw [dRow_at nd hi hx, fill_at nd hi hx]
  · obtain ⟨x, _, e⟩ := List.mem_map.mp m
    cases e
/-- alike rows: alike at every two cells -/
theorem pat_same {gs : List Str} {us r s : List Int} (nd : gs.Nodup) (h1 : r.length = gs.length) (h2 : s.length = gs.length) (al : AlikeR us r s) :
    ∀ x ∈ gs.map V.str ++ us.map V.int, ∀ y ∈ gs.map V.str ++ us.map V.int, (cv (fillF gs r) x = cv (fillF gs r) y ↔ cv (fillF gs s) x = cv (fillF gs s) y) := by
  have kind : ∀ x ∈ gs.map V.str ++ us.map V.int, (∃ (i : Nat) (a b : Int), r[i]? = some a ∧ s[i]? = some b ∧ cv (fillF gs r) x = a ∧ cv (fillF gs s) x = b) ∨ ∃ v ∈ us, cv (fillF gs r) x = v ∧ cv (fillF gs s) x = v := by
    intro x hx
    rcases List.mem_append.mp hx with m | m
    · obtain ⟨g, hg, rfl⟩ := List.mem_map.mp m
      obtain ⟨i, hi⟩ := List.getElem?_of_mem hg
      have hil := (List.getElem?_eq_some_iff.mp hi).1
      obtain ⟨a, ha⟩ : ∃ a, r[i]? = some a := ⟨_, List.getElem?_eq_getElem (by omega)⟩
      obtain ⟨b, hb⟩ : ∃ b, s[i]? = some b := ⟨_, List.getElem?_eq_getElem (by omega)⟩
      exact .inl ⟨i, a, b, ha, hb, fill_at nd hi ha, fill_at nd hi hb⟩
    · obtain ⟨v, hv, rfl⟩ := List.mem_map.mp m
      exact .inr ⟨v, hv, rfl, rfl⟩
  intro x hx y hy
  rcases kind x hx with ⟨i, a, b, ha, hb, e1, e2⟩ | ⟨v, hv, e1, e2⟩ <;> rcases kind y hy with ⟨j, a', b', ha', hb', e3, e4⟩ | ⟨v', hv', e3, e4⟩ <;> rw [e1, e2, e3, e4]
  · exact (al.2 i a b ha hb).2 j a' b' ha' hb'
  · exact (al.2 i a b ha hb).1 v' hv'
  · have q := (al.2 j a' b' ha' hb').1 v hv
    exact ⟨fun e => (q.mp e.symm).symm, fun e => (q.mpr e.symm).symm⟩
/-! ### more readings -/
section
variable {K : PySem.W.Frag} {σ : L2.St} {H : Hp} {te to ta tb : TE} {c : Cl} {d : Cn} {n : Nat}
theorem el_cat {l : Addr} {xs ys : List V} (ha : Ev ta σ H (.ref l)) (hl : H l = some (.lst xs)) (hb : EvP tb σ H (IsL ys)) (hz : xs.length + ys.length ≤ 1000) : EvL (tOp rCat ta tb) σ H (xs ++ ys) := by
  intro H1 e1 Q q
  refine ha H1 e1 _ fun H2 e2 => hb H2 (e1.trans e2) _ fun v H3 e3 ⟨b, ev, h3⟩ => ?_
  subst ev
  exact ⟨l, b, xs, ys, rfl, rfl, ((e1.trans e2).trans e3) _ _ hl, h3, Nat.le_of_lt (small1000 hz), fun p hp => q p _ (fresh_back (e2.trans e3) hp) ((e2.trans e3).trans (Ex.new hp)) upd_same⟩
/-- a dict copied -/
abbrev rDictD : List V → Hp → VK → Prop := fun xs H Q => ∃ (a : Addr) (kvs : List (Key × V)), xs = [.ref a] ∧ Rd H a (.dK kvs) ∧ ∀ p, H p = none → Q (.ref p) (upd H p (.dK kvs))
theorem evp_dict {a : Addr} {kvs : List (Key × V)} (h : Ev te σ H (.ref a)) (ha : H a = some (.dK kvs)) : EvP (tCB rDictD (tCons te tNil)) σ H fun v H' => ∃ p, v = .ref p ∧ H' p = some (.dK kvs) := by
  intro H1 e1 Q q
  exact h H1 e1 _ fun H2 e2 => ⟨a, kvs, rfl, .inl ((e1.trans e2) _ _ ha), fun p hp => q _ _ (e2.trans (Ex.new hp)) ⟨p, rfl, upd_same⟩⟩
/-- the condition's truth at a filling that is known by a property -/
theorem evp_truth {gs : List Str} {us : List Int} {R : List Int → Prop} (h : Ev to σ H (.ref d.a)) (hd : CondN c H n d) (nd : gs.Nodup) (hs : ∀ y ∈ d.cs, y ∈ gs.map V.str ++ us.map V.int)
    (ht : EvP te σ H fun v H' => ∃ p r, v = .ref p ∧ H' p = some (.dK (dRow gs r)) ∧ r.length = gs.length ∧ R r) :
    EvP (tD c "truth" (spTruth c n) (spTruth c n) (spTruth c n) (spTruth c n) (spTruth c n) to (tCons te tNil)) σ H fun v _ => ∃ r, R r ∧ r.length = gs.length ∧ v = .bl (d.h (fillF gs r)) := by
  intro H1 e1 Q q
  have go : ∀ {C dx : Addr} {fs : List (Str × V)}, H d.a = some (.ins C dx fs) → fs.lookup ("truth" : Str) = none → tMeth C "truth" (spTruth c n) [] E0 to (tCons te tNil) σ H1 Q := by
    intro C dx fs h1 hl
    refine h H1 e1 _ fun H2 e2 => ⟨d.a, dx, fs, rfl, (e1.trans e2) _ _ h1, hl, ht H2 (e1.trans e2) _ fun v H3 e3 ⟨p, r, ev, hp, rl, hr⟩ => ?_⟩
    subst ev
    exact ⟨d, p, fillF gs r, rfl, hd.ex ((e1.trans e2).trans e3), fill_ok nd rl hp hs, fun H4 e4 => q _ H4 ((e2.trans e3).trans e4) ⟨r, hr, rl, rfl⟩⟩
  rcases condN_cases hd with q' | q' | q' | q' | q'
  · obtain ⟨dx, b, h1, _⟩ := id q'
    exact .inl (go h1 (lk0 _ (by decide +kernel)))
  · obtain ⟨dx, x, y, h1, _⟩ := id q'
    exact .inr (.inl (go h1 (fsS_no x y (by decide +kernel) (by decide +kernel))))
  · match n, q' with
    | _ + 1, q' =>
      obtain ⟨dx, u, ps, h1, _⟩ := id q'
      exact .inr (.inr (.inl (go h1 (lk0 _ (by decide +kernel)))))
  · match n, q' with
    | _ + 1, q' =>
      obtain ⟨dx, u, ps, h1, _⟩ := id q'
      exact .inr (.inr (.inr (.inl (go h1 (lk0 _ (by decide +kernel))))))
  · match n, q' with
    | _ + 1, q' =>
      obtain ⟨dx, p, h1, _⟩ := id q'
      exact .inr (.inr (.inr (.inr (go h1 (lk0 _ (by decide +kernel))))))
end
/-! ### isinstance of a condition -/
structure IsC (K : PySem.W.Frag) (C D : Addr) : Prop where
  ha : PySem.W.findIn K (.ref C) "__class__" = some (some (.builtin "object.__class__"))
  htk : PySem.W.mroIn K C (.type "object") = some true
  kit : PySem.W.kitOne K (.ref C) (.ref D) = some true
structure IsCs (K : PySem.W.Frag) (c : Cl) : Prop where
  hn : PySem.W.specialIn K (.builtin "object.__class__") "__get__" = some (some (.builtin "getset_descriptor.__get__"))
  ht : PySem.W.takesIn K (.builtin "object.__class__") = some true
  t : IsC K c.T c.C
  s : IsC K c.S c.C
  a : IsC K c.A c.C
  o : IsC K c.O c.C
  p : IsC K c.P c.C
theorem isi_cond {K : PySem.W.Frag} {mg : Str → Option Value} {c : Cl} {H : Hp} {d : Cn} {n : Nat} (T : Txt K mg c) (I : IsCs K c) (hd : CondN c H n d) : ∃ t, TyX K H (.ref d.a) t ∧ PySem.W.kitOne K t (.ref c.C) = some true := by
  rcases condN_cases hd with q | q | q | q | q
  · obtain ⟨dx, b, h1, _⟩ := id q
    exact ⟨_, .base (.ins h1 T.clT I.t.ha I.hn I.ht I.t.htk), I.t.kit⟩
  · obtain ⟨dx, x, y, h1, _⟩ := id q
    exact ⟨_, .base (.ins h1 T.clS I.s.ha I.hn I.ht I.s.htk), I.s.kit⟩
  · match n, q with
    | _ + 1, q =>
      obtain ⟨dx, u, ps, h1, _⟩ := id q
      exact ⟨_, .base (.ins h1 T.clA I.a.ha I.hn I.ht I.a.htk), I.a.kit⟩
  · match n, q with
    | _ + 1, q =>
      obtain ⟨dx, u, ps, h1, _⟩ := id q
      exact ⟨_, .base (.ins h1 T.clO I.o.ha I.hn I.ht I.o.htk), I.o.kit⟩
  · match n, q with
    | _ + 1, q =>
      obtain ⟨dx, p, h1, _⟩ := id q
      exact ⟨_, .base (.ins h1 T.clP I.p.ha I.hn I.ht I.p.htk), I.p.kit⟩
/-! ### the told kind -/
theorem told_one {gs : List Str} {us row : List Int} {rs : List (Addr × List Int)} {old new : List Int} (b : List Int → Bool) (hb : ∀ s, b s = true ↔ AlikeR us s row) (un : us.Nodup) (pm : old.Perm us) (nn : new.Nodup) (nl : new.length = gs.length) (no : ∀ x ∈ new, x ∉ us)
    (hr : rs.map (·.2) = (kindsN old new gs.length).map (·.1)) (rl : row.length = gs.length) : ∃ z, rs.filter (fun z => b z.2) = [z] ∧ AlikeR us z.2 row := by
  obtain ⟨p, hp⟩ := kinds_one (old := old) (new := new) (pm.nodup_iff.mpr un) nn (fun x hx hm => no x hx (pm.mem_iff.mp hm)) row (by omega) b fun s => (hb s).trans
    ⟨fun h => h.sub fun v hv => pm.mem_iff.mp hv, fun h => h.sub fun v hv => pm.mem_iff.mpr hv⟩
  rw [rl] at hp
  have e1 : (rs.filter fun z => b z.2).map (·.2) = [p.1] := by
    have q1 : (rs.filter fun z => b z.2).map (·.2) = (rs.map (·.2)).filter b := by rw [List.filter_map]; rfl
    have q2 : ((kindsN old new gs.length).map (·.1)).filter b = ((kindsN old new gs.length).filter fun p => b p.1).map (·.1) := by rw [List.filter_map]; rfl
    rw [q1, hr, q2, hp]
    rfl
  have l1 : (rs.filter fun z => b z.2).length = 1 := by
    have q := congrArg List.length e1
    rw [List.length_map] at q
    exact q
  obtain ⟨z, hz⟩ := List.length_eq_one_iff.mp l1
  refine ⟨z, hz, (hb z.2).mp ?_⟩
  have hm : z ∈ rs.filter fun z => b z.2 := by rw [hz]; exact List.mem_cons_self
  exact (List.mem_filter.mp hm).2
end K17
/-! The law. -/
namespace K17
open PySem PySem.Spec PyProof.Rows L2 Evl
def spLaw (K : PySem.W.Frag) : Sp := fun vs H Q _ => ∃ (a : Addr) (ns : List Int), vs = [.ref a] ∧ SqL K H a (ns.map V.int) ∧ ns.length ≤ 63 ∧ ∀ H', Q (.bl true) H'
abbrev nLaw : List Str := ["_law_script", "_law_gaps", "_law_values_here", "_law_cond_here", "_law_filling_here", "_law_truth", "_law_more", "_law_wide", "_law_told", "_law_value_here", "_law_kind"]
theorem scLaw : FnScope nLaw ["_law_script"] (defScope sLaw) := ⟨rfl, rfl, rfl, by decide +kernel, rfl, by decide +kernel, by decide +kernel⟩
theorem ev_exact {te : TE} {σ : L2.St} {H : Hp} {x : V} (h : EvP te σ H fun v _ => v = x) : Ev te σ H x := fun H1 e Q q => h H1 e Q fun v H2 e2 ev => by
  rw [ev]
  exact q H2 e2
theorem nodup_wide {us ms : List Int} (hu : us.Nodup) (hm : ms.Nodup) : (us ++ ms.filter fun x => !decide (x ∈ us)).Nodup := by
  rw [List.nodup_append]
  refine ⟨hu, hm.sublist List.filter_sublist, fun a ha b hb e => ?_⟩
  have q := (List.mem_filter.mp hb).2
  rw [← e, decide_eq_true ha] at q
  cases q
theorem rows_len {gs : List Str} {rs : List (Addr × List Int)} {old new : List Int} (hr : rs.map (·.2) = (kindsN old new gs.length).map (·.1)) {z : Addr × List Int} (hz : z ∈ rs) : z.2.length = gs.length := by
  have hm : z.2 ∈ rs.map (·.2) := List.mem_map.mpr ⟨z, hz, rfl⟩
  rw [hr] at hm
  obtain ⟨p, hp, e⟩ := List.mem_map.mp hm
  rw [← e]
  exact (kinds_ok old new gs.length p hp).len
theorem el_wide {K : PySem.W.Frag} {H : Hp} {u m : Addr} {us ms : List Int} {s0 s1 s3 s4 s5 s7 s8 : Option V} (hU : H u = some (.lst (us.map V.int))) (hm : H m = some (.lst (ms.map V.int))) (u3 : us.length ≤ 3) (m2 : ms.length ≤ 2) :
    EvL (tOp rCat (tVar 2) (tLc (iList K (tVar 6)) (gName 9) (tTest (tOp (rIn K true) (tVar 9) (tVar 2))) (tVar 9) [9])) [s0, s1, some (.ref u), s3, s4, s5, some (.ref m), s7, s8, none, none] H ((us ++ ms.filter fun x => !decide (x ∈ us)).map V.int) := by
  rw [List.map_append]
  refine el_cat (ev_var rfl) hU (evp_isL ?_) ?_
  · have eg : given (ms.map V.int).length (fun i => !decide (ms.getD i 0 ∈ us)) (fun i => V.int (ms.getD i 0)) = (ms.filter fun x => !decide (x ∈ us)).map V.int := by
      rw [List.length_map]
      exact given_filter V.int (fun x => !decide (x ∈ us)) _ _ ms (fun i y hy => by rw [List.getD_eq_getElem?_getD, hy]; rfl) fun i y hy => by rw [List.getD_eq_getElem?_getD, hy]; rfl
    rw [← eg]
    have at_ : ∀ (i : Nat) (x : V), (ms.map V.int)[i]? = some x → x = .int (ms.getD i 0) := fun i x hx => by
      rw [List.getElem?_map] at hx
      cases hy : ms[i]? with
      | none => rw [hy] at hx; cases hx
      | some y =>
        rw [hy] at hx
        rw [List.getD_eq_getElem?_getD, hy]
        exact (Option.some.inj hx).symm
    refine el_lcL _ _ (ev_var rfl) (sq_of hm) (by rw [List.length_map]; omega) (fun x => rfl) (fun i x H1 e1 hx => ?_) fun i x H1 e1 hx _ => ?_
    · have ex := at_ i x hx
      subst ex
      refine et_test (ev_is (ev_op (ev_var rfl) (ev_var rfl) (rv_niL (sq_of (e1 _ _ hU)) rfl (flat_ints us))) ?_)
      rw [inV_ints]
    · have ex := at_ i x hx
      subst ex
      exact ev_var rfl
  · rw [List.length_map, List.length_map]
    have := List.length_filter_le (fun x => !decide (x ∈ us)) ms
    omega
theorem evp_told {K : PySem.W.Frag} {H : Hp} {g wd fl : Addr} {gs : List Str} {ws row : List Int} {s0 s2 s3 s5 s6 s8 : Option V} (hG : H g = some (.lst (gs.map V.str))) (nd : gs.Nodup) (g3 : gs.length ≤ 3) (hW : H wd = some (.lst (ws.map V.int))) (wn : ws.Nodup) (w5 : ws.length ≤ 5)
    (hF : H fl = some (.dK (dRow gs row))) (rowl : row.length = gs.length) :
    EvP (tLc (iList K (tCall (spKinds K) [] E0 (tCons (tCB (rListS K) (tCons (tVar 1) tNil)) (tCons (tCB (rListS K) (tCons (tVar 7) tNil)) tNil)))) (gName 10)
      (tB (tCall (spAlike K) [] E0 (tCons (tVar 1) (tCons (tVar 7) (tCons (tVar 10) (tCons (tVar 4) tNil)))))) (tVar 10) [10])
      [s0, some (.ref g), s2, s3, some (.ref fl), s5, s6, some (.ref wd), s8, none, none] H fun v H' => ∃ z : Addr × List Int, IsL [.ref z.1] v H' ∧ H' z.1 = some (.dK (dRow gs z.2)) ∧ z.2.length = gs.length ∧ AlikeR ws z.2 row := by
  obtain ⟨b, hb⟩ : ∃ b : List Int → Bool, ∀ s, b s = true ↔ AlikeR ws s row := Classical.axiomOfChoice (r := fun s (c : Bool) => c = true ↔ AlikeR ws s row) fun s => by
    by_cases h : AlikeR ws s row
    · exact ⟨true, iff_of_true rfl h⟩
    · exact ⟨false, iff_of_false (by decide) h⟩
  intro H1 e1 Q q
  refine el_list (ev_var rfl) (sq_of hG) H1 e1 _ fun p1 H2 _ e2 h1 => el_list (ev_var rfl) (sq_of hW) H2 (e1.trans e2) _ fun p2 H3 _ e3 h2 => ?_
  refine ⟨p1, p2, gs, ws, rfl, sq_of (e3 _ _ h1), nd, g3, sq_of h2, w5, fun v H4 e4 ⟨rs, old, new, ⟨pl, ev, hpl⟩, hrs, hk, pm, nn, nl, no⟩ => ?_⟩
  subst ev
  have E4 : Ex H H4 := ((e1.trans e2).trans e3).trans e4
  obtain ⟨z0, hz0, al0⟩ := told_one b hb wn pm nn nl no hk rowl
  have rlen : ∀ z ∈ rs, z.2.length = gs.length := fun z hz => rows_len hk hz
  have zm : z0 ∈ rs := (List.mem_filter.mp (show z0 ∈ rs.filter fun z => b z.2 by rw [hz0]; exact List.mem_cons_self)).1
  have lenB : rs.length ≤ 40000 := by
    have q1 := congrArg List.length hk
    rw [List.length_map, List.length_map] at q1
    have q2 := kinds_few (old := old) (new := new) (by rw [pm.length_eq]; exact w5) (by omega) gs.length g3
    have q3 : 8 ^ gs.length ≤ 8 ^ 3 := Nat.pow_le_pow_right (by decide) g3
    omega
  have at_ : ∀ (i : Nat) (x : V), (rs.map fun z => V.ref z.1)[i]? = some x → ∃ z, rs[i]? = some z ∧ x = .ref z.1 := fun i x hx => by
    rw [List.getElem?_map] at hx
    cases hy : rs[i]? with
    | none => rw [hy] at hx; cases hx
    | some y =>
      rw [hy] at hx
      exact ⟨y, rfl, (Option.some.inj hx).symm⟩
  have eg : given (rs.map fun z => V.ref z.1).length (fun i => b (rs.getD i (0, [])).2) (fun i => V.ref (rs.getD i (0, [])).1) = [.ref z0.1] := by
    rw [List.length_map]
    have q1 := given_filter (fun z : Addr × List Int => V.ref z.1) (fun z => b z.2) (fun i => b (rs.getD i (0, [])).2) (fun i => V.ref (rs.getD i (0, [])).1) rs (fun i y hy => by rw [List.getD_eq_getElem?_getD, hy]; rfl) fun i y hy => by rw [List.getD_eq_getElem?_getD, hy]; rfl
    rw [q1, hz0]
    rfl
  have main : EvL (tLc (iList K (tC (.ref pl))) (gName 10)
      (tB (tCall (spAlike K) [] E0 (tCons (tVar 1) (tCons (tVar 7) (tCons (tVar 10) (tCons (tVar 4) tNil)))))) (tVar 10) [10])
      [s0, some (.ref g), s2, s3, some (.ref fl), s5, s6, some (.ref wd), s8, none, none] H4 [.ref z0.1] := by
    rw [← eg]
    refine el_lcL _ _ ev_c (sq_of hpl) (by rw [List.length_map]; exact lenB) (fun x => rfl) (fun i x H5 e5 hx => ?_) fun i x H5 e5 hx _ => ?_
    · obtain ⟨z, hz, ex⟩ := at_ i x hx
      subst ex
      have ez : rs.getD i (0, []) = z := by rw [List.getD_eq_getElem?_getD, hz]; rfl
      have hzm := List.mem_of_getElem? hz
      rw [ez]
      refine et_B (ev_callV (ea_cons (ev_var rfl) (ea_cons (ev_var rfl) (ea_cons (ev_var rfl) (ea_cons (ev_var rfl) ea_nil)))) fun H6 e6 Q r E => ?_)
      refine ⟨g, wd, z.1, fl, gs, ws, z.2, row, rfl, sq_of ((E4.trans (e5.trans e6)) _ _ hG), nd, sq_of ((E4.trans (e5.trans e6)) _ _ hW), (e5.trans e6) _ _ (hrs z hzm), (E4.trans (e5.trans e6)) _ _ hF, rlen z hzm, rowl, fun bb hbb => ?_⟩
      have ebb : bb = b z.2 := by
        rw [Bool.eq_iff_iff, hbb, hb]
      rw [ebb]
      exact r H6 (Ex.refl H6)
    · obtain ⟨z, hz, ex⟩ := at_ i x hx
      subst ex
      have ez : rs.getD i (0, []) = z := by rw [List.getD_eq_getElem?_getD, hz]; rfl
      rw [ez]
      exact ev_var rfl
  exact main H4 (Ex.refl H4) _ fun p H5 _ e5 hp => q _ H5 (((e2.trans e3).trans e4).trans e5) ⟨z0, ⟨p, rfl, hp⟩, e5 _ _ (hrs z0 zm), rlen z0 zm, al0⟩
theorem same_bl (b : Bool) : (!decide (V.bl b = V.bl b)) = false := by
  rw [decide_eq_true rfl]
  rfl
section
variable {P : Program} {w : World} {K : PySem.W.Frag} {mg : Str → Option Value} {base : Heap} {c : Cl} {f : Addr} {fd : FuncData}
theorem ok_law (F : Fun K "law" "law" sLaw f fd) (T : Txt K mg c) (I : IsCs K c) (mC : mg "Cond" = some (.ref c.C))
    (GA : Def P w K mg base 1 "_law_at" ["_law_script", "_law_k"] (spAt K)) (GN : Def P w K mg base 1 "_law_names" ["_law_cell"] spNames) (GV : Def P w K mg base 2 "_law_values" ["_law_script"] (spValues K))
    (GC : Def P w K mg base 4 "_law_cond" ["_law_script", "_law_pool"] (spCond K c)) (GF : Def P w K mg base 2 "_law_filling" ["_law_script", "_law_gaps", "_law_values_here"] (spFilling K))
    (GX : Def P w K mg base 1 "_law_exchanged" ["_law_filling_here", "_law_values_here"] (spExch K)) (GK : Def P w K mg base 2 "kinds" ["gaps", "values"] (spKinds K))
    (GL : Def P w K mg base 1 "_law_alike" ["_law_gaps", "_law_values_here", "_law_one", "_law_other"] (spAlike K))
    (GT : Five P w K mg base 23 c "truth" ["self", "filling"] (spTruth c 19) (spTruth c 19) (spTruth c 19) (spTruth c 19) (spTruth c 19)) : FnOk P w K mg base CX0 24 f fd ["_law_script"] (spLaw K) := by
  obtain ⟨fA, dA, gA, mA, kA, bA⟩ := GA
  obtain ⟨fN, dN, gN, mN, kN, bN⟩ := GN
  obtain ⟨fV, dV, gV, mV, kV, bV⟩ := GV
  obtain ⟨fC, dC, gC, mCo, kC, bC⟩ := GC
  obtain ⟨fF, dF, gF, mF, kF, bF⟩ := GF
  obtain ⟨fX, dX, gX, mX, kX, bX⟩ := GX
  obtain ⟨fK, dK, gK, mK, kK, bK⟩ := GK
  obtain ⟨fL, dL, gL, mL, kL, bL⟩ := GL
  refine F.ok scLaw (fun vs H Q E h => ?_) (fun cdv A outer s H vs Q E hr h => ?_)
  · obtain ⟨a, ns, rfl, _⟩ := h
    rfl
  · obtain ⟨a, ns, rfl, hS, _, kq⟩ := h
    have r1 : Room 1 _ := hr.mono (by decide)
    have r2 : Room 2 _ := hr.mono (by decide)
    have r4 : Room 4 _ := hr.mono (by decide)
    refine ⟨_, pss_cons (ps_set (i := 1) scLaw.nd rfl (Or.inr rfl) (pe_slice sl_list (pe_call gN r1 (by rfl) mN kN bN .nil pass0 (pa_cons (pe_call gA r1 (by rfl) mA kA bA .nil pass0 (pa_cons (pv 0) (pa_cons pe_int pa_nil))) pa_nil)) po_none (po_some (pe_op op_mod (pe_call gA r1 (by rfl) mA kA bA .nil pass0 (pa_cons (pv 0) (pa_cons pe_int pa_nil))) pe_int))))
      (pss_cons (ps_set (i := 2) scLaw.nd rfl (Or.inr rfl) (pe_call gV r2 (by rfl) mV kV bV .nil pass0 (pa_cons (pv 0) pa_nil)))
      (pss_cons (ps_set (i := 3) scLaw.nd rfl (Or.inl rfl) (pe_call gC r4 (by rfl) mCo kC bC .nil pass0 (pa_cons (pv 0) (pa_cons (pe_op op_cat (pv 1) (pv 2)) pa_nil))))
      (pss_cons (ps_set (i := 4) scLaw.nd rfl (Or.inr rfl) (pe_call gF r2 (by rfl) mF kF bF .nil pass0 (pa_cons (pv 0) (pa_cons (pv 1) (pa_cons (pv 2) pa_nil)))))
      (pss_cons (ps_set (i := 5) scLaw.nd rfl (Or.inl rfl) (pe_d GT T hr (pv 3) (pa_cons (pe_callTy call_dictD (by rfl) T.fDict (by decide +kernel) (pa_cons (pv 4) pa_nil)) pa_nil)))
      (pss_cons (ps_if (PW.pt (pw_or (pt_not (pt_val (pe_callB call_isi (by rfl) T.fIsi (by decide +kernel) (pa_cons (pv 3) (pa_cons (pe_glob (v := .ref c.C) (by rfl) mC rfl) pa_nil))))) (pw_or1 (pt_not (pt_val (pe_callB call_isi (by rfl) T.fIsi (by decide +kernel) (pa_cons (pv 5) (pa_cons (pe_bltn (v := .ty "bool") (u := .type "bool") (by rfl) T.fBool (by decide +kernel) rfl) pa_nil))))))))
        (pss_one (ps_ret pe_bl)) pss_nil)
      (pss_cons (ps_if (pt_cmpR op_ne (pe_d GT T hr (pv 3) (pa_cons (pe_call gX r1 (by rfl) mX kX bX .nil pass0 (pa_cons (pv 4) (pa_cons (pv 2) pa_nil))) pa_nil)) (pv 5) (nomark _)) (pss_one (ps_ret pe_bl)) pss_nil)
      (pss_cons (ps_for PassesOwn.never rfl (pi_list (pe_lst (pa_cons (pe_lst pa_nil) (pa_cons (pe_lst (pa_cons pe_int pa_nil)) (pa_cons (pe_lst (pa_cons pe_int (pa_cons pe_int pa_nil))) pa_nil))))) (pg_name (i := 6) scLaw.nd rfl (Or.inl rfl))
        (pss_cons (ps_set (i := 7) scLaw.nd rfl (Or.inr rfl) (pe_op op_cat (pv 2) (pe_lc (tt := tTest (tOp (rIn K true) (tVar 9) (tVar 2))) (own := [("_law_value_here", 9)]) (g := gName 9) rfl scLaw.nd (pi_list (pv 6)) (blkOk_by (own := [("_law_value_here", 9)]) (N := nLaw) (sc := defScope sLaw) (by decide +kernel))
          (fun _ _ _ _ _ => pg_name (i := 9) scLaw.nd rfl (Or.inl rfl)) (fun _ _ _ _ _ => pts_one (pt_cmpR op_notIn_seq (pv 9) (pv 2) rfl)) (fun _ _ _ _ _ => pv 9))))
        (pss_one (ps_if (PW.pt (pw_or (pt_cmpR op_lt (pe_callB call_len_seq (by rfl) T.fLen PySem.boot_len (pa_cons (pv 1) pa_nil)) pe_int (nomark _)) (pw_or1 (pt_cmpR op_lt (pe_callB call_len_seq (by rfl) T.fLen PySem.boot_len (pa_cons (pv 7) pa_nil)) pe_int (nomark _)))))
          (pss_cons (ps_setLc (i := 8) (own := [("_law_kind", 10)]) (g := gName 10) rfl scLaw.nd rfl rfl (sw_true rfl rfl rfl (by decide +kernel)) (pi_list (pe_call gK r2 (by rfl) mK kK bK .nil pass0 (pa_cons (pe_callTy call_list_of (by rfl) T.fList (by decide +kernel) (pa_cons (pv 1) pa_nil)) (pa_cons (pe_callTy call_list_of (by rfl) T.fList (by decide +kernel) (pa_cons (pv 7) pa_nil)) pa_nil))))
            (blkOk_by (own := [("_law_kind", 10)]) (N := nLaw) (sc := defScope sLaw) (by decide +kernel)) (fun _ _ _ _ _ => pg_name (i := 10) scLaw.nd rfl (Or.inl rfl))
            (fun _ _ _ _ _ => pts_one (pt_val (pe_call gL r1 (by rfl) mL kL bL .nil pass0 (pa_cons (pv 1) (pa_cons (pv 7) (pa_cons (pv 10) (pa_cons (pv 4) pa_nil))))))) (fun _ _ _ _ _ => pv 10))
          (pss_one (ps_if (PW.pt (pw_or (pt_cmpR op_ne (pe_callB call_len_seq (by rfl) T.fLen PySem.boot_len (pa_cons (pv 8) pa_nil)) pe_int (nomark _)) (pw_or1 (pt_cmpR op_ne (pe_d GT T hr (pv 3) (pa_cons (pe_ix ix_list (pv 8) pe_int (fun _ _ => rfl)) pa_nil)) (pv 5) (nomark _)))))
            (pss_one (ps_ret pe_bl)) pss_nil))) pss_nil))))
      (pss_one (ps_ret pe_bl))))))))), ?_⟩
    -- the gaps
    have at_ : ∀ (σ : L2.St) (H0 : Hp), Ex H H0 → σ[0]? = some (some (.ref a)) → ∀ k : Nat, Ev (tCall (spAt K) [] E0 (tCons (tVar 0) (tCons (tC (.int (k : Int))) tNil))) σ H0 (.int (atF ns k)) := fun σ H0 e0 h0 k =>
      ev_callV (ea_cons (ev_var h0) (ea_cons ev_c ea_nil)) fun H1 e1 Q r E => ⟨a, ns, k, rfl, ex_l (e0.trans e1) hS, r⟩
    refine q_asgP (P := fun v H' => ∃ gs : List Str, IsL (gs.map V.str) v H' ∧ gs.Nodup ∧ gs.length ≤ 3) ?_ ?_
    · intro H1 e1 Q1 q
      have nm := evp_call (P := fun v H' => ∃ ys : List Str, IsL (ys.map V.str) v H' ∧ ys.Nodup ∧ ys.length = 3) (sp := spNames) (dvs := []) (E := E0) (σ := L2.start nLaw [.ref a]) (H := H) (ea_cons (at_ _ H (Ex.refl H) rfl 0) ea_nil) fun H2 e2 Q r E => ⟨_, rfl, r⟩
      refine nm H1 e1 _ fun v H2 e2 ⟨ys, ⟨p, ev, hp⟩, ynd, yl⟩ => ?_
      subst ev
      have md := ev_op (at_ (L2.start nLaw [.ref a]) H2 (e1.trans e2) rfl 1) (ev_c (v := .int 4)) (rv_I (C := fun _ j => 0 < j) (g := fun i j => V.int (i % j)) (by show (0 : Int) < 4; decide))
      refine md H2 (Ex.refl H2) _ fun H3 e3 => ⟨_, rfl, p, _, rfl, sq_of (e3 _ _ hp), fun p2 hp2 => ?_⟩
      obtain ⟨k, hk⟩ : ∃ k : Nat, atF ns 1 % 4 = (k : Int) := ⟨(atF ns 1 % 4).toNat, by omega⟩
      rw [hk, cut_take, ← List.map_take]
      refine q _ _ ((e2.trans e3).trans (Ex.new hp2)) ⟨ys.take k, ⟨p2, rfl, upd_same⟩, ynd.sublist (List.take_sublist _ _), ?_⟩
      rw [List.length_take]
      omega
    rintro v1 H1 e1 ⟨gs, ⟨g, rfl, hG1⟩, nd, g3⟩
    -- the values
    refine q_asgP (evp_call (P := fun v H' => ∃ us : List Int, IsL (us.map V.int) v H' ∧ us.Nodup ∧ us ≠ [] ∧ us.length ≤ 3) (ea_cons (ev_var rfl) ea_nil) fun H2 e2 Q r E => ⟨a, ns, rfl, ex_l (e1.trans e2) hS, r⟩) ?_
    rintro v2 H2 e2 ⟨us, ⟨u, rfl, hU2⟩, und, une, u3⟩
    have E2 : Ex H H2 := e1.trans e2
    have hG2 := e2 _ _ hG1
    -- the condition
    refine q_asgP (P := CondV c (gs.map V.str ++ us.map V.int)) ?_ ?_
    · intro H3 e3 Q1 q
      refine ⟨_, rfl, ?_⟩
      refine el_cat (ev_var rfl) (e3 _ _ hG2) (evp_at (ev_var rfl) (e3 _ _ hU2)) (by rw [List.length_map, List.length_map]; omega) H3 (Ex.refl H3) _ fun p H4 _ e4 hp => ?_
      refine ⟨a, p, ns, _, rfl, ex_l ((E2.trans e3).trans e4) hS, sq_of hp, ?_, fun y hy => ?_, fun v H5 e5 h => q v H5 (e4.trans e5) h⟩
      · intro z
        exact une (List.map_eq_nil_iff.mp (List.append_eq_nil_iff.mp z).2)
      · rcases List.mem_append.mp hy with m | m
        · obtain ⟨z, _, rfl⟩ := List.mem_map.mp m
          exact .inr ⟨z, rfl⟩
        · obtain ⟨z, _, rfl⟩ := List.mem_map.mp m
          exact .inl ⟨z, rfl⟩
    rintro v3 H3 e3 ⟨d, rfl, hd3, dsub⟩
    have E3 : Ex H H3 := E2.trans e3
    -- the filling
    refine q_asgP (evp_call (P := fun v H' => ∃ (p : Addr) (row : List Int), v = .ref p ∧ H' p = some (.dK (dRow gs row)) ∧ row.length = gs.length) (ea_cons (ev_var rfl) (ea_cons (ev_var rfl) (ea_cons (ev_var rfl) ea_nil))) fun H4 e4 Q r E =>
      ⟨a, g, u, ns, gs, us, rfl, ex_l (E3.trans e4) hS, sq_of ((e3.trans e4) _ _ hG2), nd, g3, sq_of ((e3.trans e4) _ _ hU2), une, r⟩) ?_
    rintro v4 H4 e4 ⟨fl, row, rfl, hR4, rowl⟩
    have E4 : Ex H H4 := E3.trans e4
    have hd4 := hd3.ex e4
    have hG4 := e4 _ _ (e3 _ _ hG2)
    have hU4 := e4 _ _ (e3 _ _ hU2)
    -- its truth
    refine q_asgP (P := fun v _ => v = .bl (d.h (fillF gs row))) (evp_imp (evp_truth (R := fun r => r = row) (us := us) (ev_var rfl) hd4 nd dsub (evp_imp (evp_dict (ev_var rfl) hR4) fun v H5 e5 ⟨p, ev, hp⟩ => ⟨p, row, ev, hp, rowl, rfl⟩)) fun v H5 e5 ⟨r, er, _, ev⟩ => by rw [ev, er]) ?_
    rintro v5 H5 e5 rfl
    have hd5 := hd4.ex e5
    -- what holds of an alike row
    have same : ∀ r : List Int, r.length = gs.length → AlikeR us r row → d.h (fillF gs r) = d.h (fillF gs row) := fun r rl al => hd5.same fun x hx y hy => pat_same nd rl rowl al x (dsub x hx) y (dsub y hy)
    -- isinstance
    have is1 : ∀ (σ : L2.St) (H6 : Hp), Ex H5 H6 → σ[3]? = some (some (.ref d.a)) → Ev (tCB (rIsi K) (tCons (tVar 3) (tCons (tC (.ref c.C)) tNil))) σ H6 (.bl true) := fun σ H6 e6 h3 =>
      ev_cb (ea_cons (ev_var h3) (ea_cons ev_c ea_nil)) fun H7 e7 Q q => by
        obtain ⟨t, ty, kit⟩ := isi_cond T I (hd5.ex (e6.trans e7))
        exact ⟨_, _, t, _, true, rfl, .own _, ty, kit, q H7 (Ex.refl H7)⟩
    have is2 : ∀ (σ : L2.St) (H6 : Hp), σ[5]? = some (some (.bl (d.h (fillF gs row)))) → Ev (tCB (rIsi K) (tCons (tVar 5) (tCons (tC (.ty "bool")) tNil))) σ H6 (.bl true) := fun σ H6 h5 =>
      ev_cb (ea_cons (ev_var h5) (ea_cons ev_c ea_nil)) fun H7 e7 Q q => ⟨_, _, .type "bool", _, true, rfl, .ty _, .base (.bl _), kit_ty (by decide +kernel), q H7 (Ex.refl H7)⟩
    refine q_when (b := false) (et_is (et_or (et_not (et_B (is1 _ H5 (Ex.refl H5) rfl))) fun _ => et_not (et_B (is2 _ H5 rfl))) rfl) (fun hb => by cases hb) fun _ H6 e6 => ?_
    -- exchanged
    have hR6 := e6 _ _ (e5 _ _ hR4)
    have hU6 := e6 _ _ (e5 _ _ hU4)
    have tr : ∀ {te : TE} (σ : L2.St) (H7 : Hp), Ex H5 H7 → σ[3]? = some (some (.ref d.a)) → EvP te σ H7 (fun v H' => ∃ p r, v = .ref p ∧ H' p = some (.dK (dRow gs r)) ∧ r.length = gs.length ∧ AlikeR us r row) →
        Ev (tD c "truth" (spTruth c 19) (spTruth c 19) (spTruth c 19) (spTruth c 19) (spTruth c 19) (tVar 3) (tCons te tNil)) σ H7 (.bl (d.h (fillF gs row))) := fun σ H7 e7 h3 ht =>
      ev_exact (evp_imp (evp_truth (us := us) (ev_var h3) (hd5.ex e7) nd dsub ht) fun v H8 e8 ⟨r, al, rl, ev⟩ => by rw [ev, same r rl al])
    refine q_when (b := false) (et_is (et_test (ev_op (tr _ H6 e6 rfl (evp_imp (evp_call (P := fun v H' => ∃ (p : Addr) (r' : List Int), v = .ref p ∧ H' p = some (.dK (dRow gs r')) ∧ AlikeR us r' row) (ea_cons (ev_var rfl) (ea_cons (ev_var rfl) ea_nil)) fun H7 e7 Q r E =>
        ⟨fl, u, gs, us, row, rfl, e7 _ _ hR6, nd, rowl, g3, sq_of (e7 _ _ hU6), r⟩) fun v H7 e7 ⟨p, r', ev, hp, al⟩ => ⟨p, r', ev, hp, al.1.trans rowl, al⟩)) (ev_var rfl) (rv_ne rfl))) (same_bl _)) (fun hb => by cases hb) fun _ H7 e7 => ?_
    have e57 : Ex H5 H7 := e6.trans e7
    have E7 : Ex H4 H7 := e5.trans e57
    -- for more in [[], [7], [7, 11]]
    refine ⟨Nat.zero_le _, fun m0 h0 => ⟨by show 1 ≤ sizeLine; decide, fun m1 h1 => ⟨by show 2 ≤ sizeLine; decide, fun m2 h2 => ⟨by show 3 ≤ sizeLine; decide, fun ml hml => ?_⟩⟩⟩⟩
    have X0 := Ex.new (o := .lst []) h0
    have X1 := Ex.new (o := .lst [.int 7]) h1
    have X2 := Ex.new (o := .lst [.int 7, .int 11]) h2
    have X3 := Ex.new (o := .lst [.ref m0, .ref m1, .ref m2]) hml
    have X : Ex H7 _ := (X0.trans X1).trans (X2.trans X3)
    have mores : ∀ x ∈ ([.ref m0, .ref m1, .ref m2] : List V), ∃ (m : Addr) (ms : List Int), x = .ref m ∧ (upd (upd (upd (upd H7 m0 (.lst [])) m1 (.lst [.int 7])) m2 (.lst [.int 7, .int 11])) ml (.lst [.ref m0, .ref m1, .ref m2])) m = some (.lst (ms.map V.int)) ∧ ms.Nodup ∧ ms.length ≤ 2 := by
      intro x hx
      rcases List.mem_cons.mp hx with rfl | hx
      · exact ⟨m0, [], rfl, X3 _ _ (X2 _ _ (X1 _ _ upd_same)), List.nodup_nil, by decide⟩
      · rcases List.mem_cons.mp hx with rfl | hx
        · exact ⟨m1, [7], rfl, X3 _ _ (X2 _ _ upd_same), by decide, by decide⟩
        · rw [List.mem_singleton.mp hx]
          exact ⟨m2, [7, 11], rfl, X3 _ _ upd_same, by decide, by decide⟩
    refine ⟨ml, rfl, ⟨_, sq_of upd_same⟩, ?_⟩
    have hML : (upd (upd (upd (upd H7 m0 (.lst [])) m1 (.lst [.int 7])) m2 (.lst [.int 7, .int 11])) ml (.lst [.ref m0, .ref m1, .ref m2])) ml = some (.lst [.ref m0, .ref m1, .ref m2]) := upd_same
    generalize upd (upd (upd (upd H7 m0 (.lst [])) m1 (.lst [.int 7])) m2 (.lst [.int 7, .int 11])) ml (.lst [.ref m0, .ref m1, .ref m2]) = H8 at X mores hML ⊢
    refine for_list (K := K) (a := ml) (xs := [.ref m0, .ref m1, .ref m2]) (fun i σ H' => Ex H8 H' ∧ ∃ v6 v7 v8 : Option V, σ = [some (.ref a), some (.ref g), some (.ref u), some (.ref d.a), some (.ref fl), some (.bl (d.h (fillF gs row))), v6, v7, v8, none, none])
      ⟨Ex.refl _, none, none, none, rfl⟩ (fun i σ H' _ ⟨e, _⟩ => sq_of (e _ _ hML)) ?_ ?_
    · rintro i x σ H' hi ⟨e, v6, v7, v8, rfl⟩
      obtain ⟨m, ms, rfl, hm, mnd, ml2⟩ := mores _ (List.mem_of_getElem? hi)
      have E' : Ex H5 H' := (e57.trans X).trans e
      refine q_asgL (el_wide (s0 := some (.ref a)) (s1 := some (.ref g)) (s3 := some (.ref d.a)) (s4 := some (.ref fl)) (s5 := some (.bl (d.h (fillF gs row)))) (s7 := v7) (s8 := v8) (E' _ _ (e5 _ _ hU4)) (e _ _ hm) u3 ml2) ?_
      intro wd H9 _ e9 hW
      have E9 : Ex H5 H9 := E'.trans e9
      have hG9 := E9 _ _ (e5 _ _ hG4)
      have wl : (us ++ ms.filter fun x => !decide (x ∈ us)).length ≤ 5 := by
        rw [List.length_append]
        have := List.length_filter_le (fun x => !decide (x ∈ us)) ms
        omega
      have wn := nodup_wide und mnd
      refine s_when (et_or (et_test (ev_op (ev_len (ev_var rfl) (sq_of hG9)) ev_c rv_I0)) fun _ => et_test (ev_op (ev_len (ev_var rfl) (sq_of hW)) ev_c rv_I0)) (fun _ H10 e10 => ?_) fun _ H10 e10 => ⟨(e.trans e9).trans e10, _, _, _, rfl⟩
      have E10 : Ex H5 H10 := E9.trans e10
      refine q_asgP (evp_told (s0 := some (.ref a)) (s2 := some (.ref u)) (s3 := some (.ref d.a)) (s5 := some (.bl (d.h (fillF gs row)))) (s6 := some (.ref m)) (s8 := v8) (e10 _ _ hG9) nd g3 (e10 _ _ hW) wn wl (E10 _ _ (e5 _ _ hR4)) rowl) ?_
      rintro v H11 e11 ⟨z, ⟨pt, rfl, hT⟩, hz, zl, al⟩
      have al2 : AlikeR us z.2 row := al.sub fun v hv => List.mem_append_left _ hv
      refine s_when (b := false) (et_is (et_or (et_test (ev_op (ev_len (ev_var rfl) (sq_of hT)) ev_c (rv_ne rfl))) fun _ => et_test (ev_op (tr _ H11 (E10.trans e11) rfl (evp_of (ev_op (ev_var rfl) ev_c (rv_ixL (sq_of hT) rfl)) fun H12 e12 => ⟨z.1, z.2, rfl, e12 _ _ hz, zl, al2⟩)) (ev_var rfl) (rv_ne rfl))) ?_) (fun hb => by cases hb) fun _ H12 e12 => ⟨((e.trans e9).trans e10).trans (e11.trans e12), _, _, _, rfl⟩
      rw [same_bl, Bool.or_false]
      show (!decide (V.int 1 = V.int 1)) = false
      rw [decide_eq_true rfl]
      rfl
    · rintro σ H' ⟨e, v6, v7, v8, rfl⟩
      exact kq H'
end
end K17
/-! What the top has written, the walk. -/
namespace K17
open PySem PySem.Spec PyProof.Rows L2 Evl
theorem all_mk {l : PySem.W.OpenLaw} {w : World} {K : PySem.W.Frag} {h : Heap} {mg : Str → Option Value} {fa cC cT cS cA cO cP f_gp f_ct f_tI f_sI f_vI f_pI f_tH f_sH f_aH f_oH f_pH f_cC f_sC f_vC f_pC f_ga f_tr f_bo f_fr f_ki f_at f_na f_va f_vs f_gr f_co f_fi f_al f_ex f_lw : Addr} (X : K.In h) (G : h.Ns mainGlobals mg) (hfa : mg "law" = some (.ref fa))
    {od_gp an_gp od_ct an_ct od_tI an_tI od_sI an_sI od_vI an_vI od_pI an_pI od_tH an_tH od_sH an_sH od_aH an_aH od_oH an_oH od_pH an_pH od_cC an_cC od_sC an_sC od_vC an_vC od_pC an_pC od_ga an_ga od_tr an_tr od_bo an_bo od_fr an_fr od_ki an_ki od_at an_at od_na an_na od_va an_va od_vs an_vs od_gr an_gr od_co an_co od_fi an_fi od_al an_al od_ex an_ex od_lw an_lw : Option Addr} {sl_gp sl_ct sl_tI sl_sI sl_vI sl_pI sl_tH sl_sH sl_aH sl_oH sl_pH sl_cC sl_sC sl_vC sl_pC sl_ga sl_tr sl_bo sl_fr sl_ki sl_at sl_na sl_va sl_vs sl_gr sl_co sl_fi sl_al sl_ex sl_lw : Array (Option Value)} {oc_gp kV_gp dc_gp pm_gp cd_gp ct_gp oc_ct kV_ct dc_ct pm_ct cd_ct ct_ct oc_tI kV_tI dc_tI pm_tI cd_tI ct_tI oc_sI kV_sI dc_sI pm_sI cd_sI ct_sI oc_vI kV_vI dc_vI pm_vI cd_vI ct_vI oc_pI kV_pI dc_pI pm_pI cd_pI ct_pI oc_tH kV_tH dc_tH pm_tH cd_tH ct_tH oc_sH kV_sH dc_sH pm_sH cd_sH ct_sH oc_aH kV_aH dc_aH pm_aH cd_aH ct_aH oc_oH kV_oH dc_oH pm_oH cd_oH ct_oH oc_pH kV_pH dc_pH pm_pH cd_pH ct_pH oc_cC kV_cC dc_cC pm_cC cd_cC ct_cC oc_sC kV_sC dc_sC pm_sC cd_sC ct_sC oc_vC kV_vC dc_vC pm_vC cd_vC ct_vC oc_pC kV_pC dc_pC pm_pC cd_pC ct_pC oc_ga kV_ga dc_ga pm_ga cd_ga ct_ga oc_tr kV_tr dc_tr pm_tr cd_tr ct_tr oc_bo kV_bo dc_bo pm_bo cd_bo ct_bo oc_fr kV_fr dc_fr pm_fr cd_fr ct_fr oc_ki kV_ki dc_ki pm_ki cd_ki ct_ki oc_at kV_at dc_at pm_at cd_at ct_at oc_na kV_na dc_na pm_na cd_na ct_na oc_va kV_va dc_va pm_va cd_va ct_va oc_vs kV_vs dc_vs pm_vs cd_vs ct_vs oc_gr kV_gr dc_gr pm_gr cd_gr ct_gr oc_co kV_co dc_co pm_co cd_co ct_co oc_fi kV_fi dc_fi pm_fi cd_fi ct_fi oc_al kV_al dc_al pm_al cd_al ct_al oc_ex kV_ex dc_ex pm_ex cd_ex ct_ex oc_lw kV_lw dc_lw pm_lw cd_lw ct_lw : Value} {tkM : Tok}
    (nC : PySem.W.nsIn K mainGlobals "Cond" = some (some (.ref cC)))
    (nT : PySem.W.nsIn K mainGlobals "Truth" = some (some (.ref cT)))
    (nS : PySem.W.nsIn K mainGlobals "Same" = some (some (.ref cS)))
    (nA : PySem.W.nsIn K mainGlobals "AllOf" = some (some (.ref cA)))
    (nO : PySem.W.nsIn K mainGlobals "OneOf" = some (some (.ref cO)))
    (nP : PySem.W.nsIn K mainGlobals "Opposite" = some (some (.ref cP)))
    (mTi : PySem.W.findIn K (.ref cT) "__init__" = some (some (.ref f_tI)))
    (i_tI : PySem.W.isFn K (.ref f_tI) = true)
    (l_tI : K.lookup f_tI = some ⟨oc_tI, od_tI, .func (PySem.W.fnOf "__init__" "Truth.__init__" (defArgs sTInit) (defBody sTInit) (defScope sTInit) .none kV_tI dc_tI pm_tI an_tI cd_tI ct_tI), sl_tI⟩)
    (c_tI : PySem.W.codeIn K cd_tI "Truth.__init__" = true)
    (k_tI : PySem.W.keepIn K (.ref f_tI) = true)
    (mTh : PySem.W.findIn K (.ref cT) "holds" = some (some (.ref f_tH)))
    (i_tH : PySem.W.isFn K (.ref f_tH) = true)
    (l_tH : K.lookup f_tH = some ⟨oc_tH, od_tH, .func (PySem.W.fnOf "holds" "Truth.holds" (defArgs sTHolds) (defBody sTHolds) (defScope sTHolds) .none kV_tH dc_tH pm_tH an_tH cd_tH ct_tH), sl_tH⟩)
    (c_tH : PySem.W.codeIn K cd_tH "Truth.holds" = true)
    (k_tH : PySem.W.keepIn K (.ref f_tH) = true)
    (mTc : PySem.W.findIn K (.ref cT) "cells" = some (some (.ref f_cC)))
    (i_cC : PySem.W.isFn K (.ref f_cC) = true)
    (l_cC : K.lookup f_cC = some ⟨oc_cC, od_cC, .func (PySem.W.fnOf "cells" "Cond.cells" (defArgs sCCells) (defBody sCCells) (defScope sCCells) .none kV_cC dc_cC pm_cC an_cC cd_cC ct_cC), sl_cC⟩)
    (c_cC : PySem.W.codeIn K cd_cC "Cond.cells" = true)
    (k_cC : PySem.W.keepIn K (.ref f_cC) = true)
    (mTg : PySem.W.findIn K (.ref cT) "gaps" = some (some (.ref f_ga)))
    (i_ga : PySem.W.isFn K (.ref f_ga) = true)
    (l_ga : K.lookup f_ga = some ⟨oc_ga, od_ga, .func (PySem.W.fnOf "gaps" "Cond.gaps" (defArgs sGaps) (defBody sGaps) (defScope sGaps) .none kV_ga dc_ga pm_ga an_ga cd_ga ct_ga), sl_ga⟩)
    (c_ga : PySem.W.codeIn K cd_ga "Cond.gaps" = true)
    (k_ga : PySem.W.keepIn K (.ref f_ga) = true)
    (mTt : PySem.W.findIn K (.ref cT) "truth" = some (some (.ref f_tr)))
    (i_tr : PySem.W.isFn K (.ref f_tr) = true)
    (l_tr : K.lookup f_tr = some ⟨oc_tr, od_tr, .func (PySem.W.fnOf "truth" "Cond.truth" (defArgs sTruth) (defBody sTruth) (defScope sTruth) .none kV_tr dc_tr pm_tr an_tr cd_tr ct_tr), sl_tr⟩)
    (c_tr : PySem.W.codeIn K cd_tr "Cond.truth" = true)
    (k_tr : PySem.W.keepIn K (.ref f_tr) = true)
    (mSi : PySem.W.findIn K (.ref cS) "__init__" = some (some (.ref f_sI)))
    (i_sI : PySem.W.isFn K (.ref f_sI) = true)
    (l_sI : K.lookup f_sI = some ⟨oc_sI, od_sI, .func (PySem.W.fnOf "__init__" "Same.__init__" (defArgs sSInit) (defBody sSInit) (defScope sSInit) .none kV_sI dc_sI pm_sI an_sI cd_sI ct_sI), sl_sI⟩)
    (c_sI : PySem.W.codeIn K cd_sI "Same.__init__" = true)
    (k_sI : PySem.W.keepIn K (.ref f_sI) = true)
    (mSh : PySem.W.findIn K (.ref cS) "holds" = some (some (.ref f_sH)))
    (i_sH : PySem.W.isFn K (.ref f_sH) = true)
    (l_sH : K.lookup f_sH = some ⟨oc_sH, od_sH, .func (PySem.W.fnOf "holds" "Same.holds" (defArgs sSHolds) (defBody sSHolds) (defScope sSHolds) .none kV_sH dc_sH pm_sH an_sH cd_sH ct_sH), sl_sH⟩)
    (c_sH : PySem.W.codeIn K cd_sH "Same.holds" = true)
    (k_sH : PySem.W.keepIn K (.ref f_sH) = true)
    (mSc : PySem.W.findIn K (.ref cS) "cells" = some (some (.ref f_sC)))
    (i_sC : PySem.W.isFn K (.ref f_sC) = true)
    (l_sC : K.lookup f_sC = some ⟨oc_sC, od_sC, .func (PySem.W.fnOf "cells" "Same.cells" (defArgs sSCells) (defBody sSCells) (defScope sSCells) .none kV_sC dc_sC pm_sC an_sC cd_sC ct_sC), sl_sC⟩)
    (c_sC : PySem.W.codeIn K cd_sC "Same.cells" = true)
    (k_sC : PySem.W.keepIn K (.ref f_sC) = true)
    (mSg : PySem.W.findIn K (.ref cS) "gaps" = some (some (.ref f_ga)))
    (mSt : PySem.W.findIn K (.ref cS) "truth" = some (some (.ref f_tr)))
    (mAi : PySem.W.findIn K (.ref cA) "__init__" = some (some (.ref f_vI)))
    (i_vI : PySem.W.isFn K (.ref f_vI) = true)
    (l_vI : K.lookup f_vI = some ⟨oc_vI, od_vI, .func (PySem.W.fnOf "__init__" "Several.__init__" (defArgs sVInit) (defBody sVInit) (defScope sVInit) .none kV_vI dc_vI pm_vI an_vI cd_vI ct_vI), sl_vI⟩)
    (c_vI : PySem.W.codeIn K cd_vI "Several.__init__" = true)
    (k_vI : PySem.W.keepIn K (.ref f_vI) = true)
    (mAh : PySem.W.findIn K (.ref cA) "holds" = some (some (.ref f_aH)))
    (i_aH : PySem.W.isFn K (.ref f_aH) = true)
    (l_aH : K.lookup f_aH = some ⟨oc_aH, od_aH, .func (PySem.W.fnOf "holds" "AllOf.holds" (defArgs sAHolds) (defBody sAHolds) (defScope sAHolds) .none kV_aH dc_aH pm_aH an_aH cd_aH ct_aH), sl_aH⟩)
    (c_aH : PySem.W.codeIn K cd_aH "AllOf.holds" = true)
    (k_aH : PySem.W.keepIn K (.ref f_aH) = true)
    (mAc : PySem.W.findIn K (.ref cA) "cells" = some (some (.ref f_vC)))
    (i_vC : PySem.W.isFn K (.ref f_vC) = true)
    (l_vC : K.lookup f_vC = some ⟨oc_vC, od_vC, .func (PySem.W.fnOf "cells" "Several.cells" (defArgs sVCells) (defBody sVCells) (defScope sVCells) .none kV_vC dc_vC pm_vC an_vC cd_vC ct_vC), sl_vC⟩)
    (c_vC : PySem.W.codeIn K cd_vC "Several.cells" = true)
    (k_vC : PySem.W.keepIn K (.ref f_vC) = true)
    (mAg : PySem.W.findIn K (.ref cA) "gaps" = some (some (.ref f_ga)))
    (mAt : PySem.W.findIn K (.ref cA) "truth" = some (some (.ref f_tr)))
    (mOi : PySem.W.findIn K (.ref cO) "__init__" = some (some (.ref f_vI)))
    (mOh : PySem.W.findIn K (.ref cO) "holds" = some (some (.ref f_oH)))
    (i_oH : PySem.W.isFn K (.ref f_oH) = true)
    (l_oH : K.lookup f_oH = some ⟨oc_oH, od_oH, .func (PySem.W.fnOf "holds" "OneOf.holds" (defArgs sOHolds) (defBody sOHolds) (defScope sOHolds) .none kV_oH dc_oH pm_oH an_oH cd_oH ct_oH), sl_oH⟩)
    (c_oH : PySem.W.codeIn K cd_oH "OneOf.holds" = true)
    (k_oH : PySem.W.keepIn K (.ref f_oH) = true)
    (mOc : PySem.W.findIn K (.ref cO) "cells" = some (some (.ref f_vC)))
    (mOg : PySem.W.findIn K (.ref cO) "gaps" = some (some (.ref f_ga)))
    (mOt : PySem.W.findIn K (.ref cO) "truth" = some (some (.ref f_tr)))
    (mPi : PySem.W.findIn K (.ref cP) "__init__" = some (some (.ref f_pI)))
    (i_pI : PySem.W.isFn K (.ref f_pI) = true)
    (l_pI : K.lookup f_pI = some ⟨oc_pI, od_pI, .func (PySem.W.fnOf "__init__" "Opposite.__init__" (defArgs sPInit) (defBody sPInit) (defScope sPInit) .none kV_pI dc_pI pm_pI an_pI cd_pI ct_pI), sl_pI⟩)
    (c_pI : PySem.W.codeIn K cd_pI "Opposite.__init__" = true)
    (k_pI : PySem.W.keepIn K (.ref f_pI) = true)
    (mPh : PySem.W.findIn K (.ref cP) "holds" = some (some (.ref f_pH)))
    (i_pH : PySem.W.isFn K (.ref f_pH) = true)
    (l_pH : K.lookup f_pH = some ⟨oc_pH, od_pH, .func (PySem.W.fnOf "holds" "Opposite.holds" (defArgs sPHolds) (defBody sPHolds) (defScope sPHolds) .none kV_pH dc_pH pm_pH an_pH cd_pH ct_pH), sl_pH⟩)
    (c_pH : PySem.W.codeIn K cd_pH "Opposite.holds" = true)
    (k_pH : PySem.W.keepIn K (.ref f_pH) = true)
    (mPc : PySem.W.findIn K (.ref cP) "cells" = some (some (.ref f_pC)))
    (i_pC : PySem.W.isFn K (.ref f_pC) = true)
    (l_pC : K.lookup f_pC = some ⟨oc_pC, od_pC, .func (PySem.W.fnOf "cells" "Opposite.cells" (defArgs sPCells) (defBody sPCells) (defScope sPCells) .none kV_pC dc_pC pm_pC an_pC cd_pC ct_pC), sl_pC⟩)
    (c_pC : PySem.W.codeIn K cd_pC "Opposite.cells" = true)
    (k_pC : PySem.W.keepIn K (.ref f_pC) = true)
    (mPg : PySem.W.findIn K (.ref cP) "gaps" = some (some (.ref f_ga)))
    (mPt : PySem.W.findIn K (.ref cP) "truth" = some (some (.ref f_tr)))
    (a_gp : PySem.W.nsIn K mainGlobals "is_gap" = some (some (.ref f_gp)))
    (l_gp : K.lookup f_gp = some ⟨oc_gp, od_gp, .func (PySem.W.fnOf "is_gap" "is_gap" (defArgs sIsGap) (defBody sIsGap) (defScope sIsGap) .none kV_gp dc_gp pm_gp an_gp cd_gp ct_gp), sl_gp⟩)
    (c_gp : PySem.W.codeIn K cd_gp "is_gap" = true)
    (k_gp : PySem.W.keepIn K (.ref f_gp) = true)
    (a_ct : PySem.W.nsIn K mainGlobals "come_to" = some (some (.ref f_ct)))
    (l_ct : K.lookup f_ct = some ⟨oc_ct, od_ct, .func (PySem.W.fnOf "come_to" "come_to" (defArgs sComeTo) (defBody sComeTo) (defScope sComeTo) .none kV_ct dc_ct pm_ct an_ct cd_ct ct_ct), sl_ct⟩)
    (c_ct : PySem.W.codeIn K cd_ct "come_to" = true)
    (k_ct : PySem.W.keepIn K (.ref f_ct) = true)
    (a_bo : PySem.W.nsIn K mainGlobals "bound" = some (some (.ref f_bo)))
    (l_bo : K.lookup f_bo = some ⟨oc_bo, od_bo, .func (PySem.W.fnOf "bound" "bound" (defArgs sBound) (defBody sBound) (defScope sBound) .none kV_bo dc_bo pm_bo an_bo cd_bo ct_bo), sl_bo⟩)
    (c_bo : PySem.W.codeIn K cd_bo "bound" = true)
    (k_bo : PySem.W.keepIn K (.ref f_bo) = true)
    (a_fr : PySem.W.nsIn K mainGlobals "fresh" = some (some (.ref f_fr)))
    (l_fr : K.lookup f_fr = some ⟨oc_fr, od_fr, .func (PySem.W.fnOf "fresh" "fresh" (defArgs sFresh) (defBody sFresh) (defScope sFresh) .none kV_fr dc_fr pm_fr an_fr cd_fr ct_fr), sl_fr⟩)
    (c_fr : PySem.W.codeIn K cd_fr "fresh" = true)
    (k_fr : PySem.W.keepIn K (.ref f_fr) = true)
    (a_ki : PySem.W.nsIn K mainGlobals "kinds" = some (some (.ref f_ki)))
    (l_ki : K.lookup f_ki = some ⟨oc_ki, od_ki, .func (PySem.W.fnOf "kinds" "kinds" (defArgs sKinds) (defBody sKinds) (defScope sKinds) .none kV_ki dc_ki pm_ki an_ki cd_ki ct_ki), sl_ki⟩)
    (c_ki : PySem.W.codeIn K cd_ki "kinds" = true)
    (k_ki : PySem.W.keepIn K (.ref f_ki) = true)
    (a_at : PySem.W.nsIn K mainGlobals "_law_at" = some (some (.ref f_at)))
    (l_at : K.lookup f_at = some ⟨oc_at, od_at, .func (PySem.W.fnOf "_law_at" "_law_at" (defArgs sAt) (defBody sAt) (defScope sAt) .none kV_at dc_at pm_at an_at cd_at ct_at), sl_at⟩)
    (c_at : PySem.W.codeIn K cd_at "_law_at" = true)
    (k_at : PySem.W.keepIn K (.ref f_at) = true)
    (a_na : PySem.W.nsIn K mainGlobals "_law_names" = some (some (.ref f_na)))
    (l_na : K.lookup f_na = some ⟨oc_na, od_na, .func (PySem.W.fnOf "_law_names" "_law_names" (defArgs sNames) (defBody sNames) (defScope sNames) .none kV_na dc_na pm_na an_na cd_na ct_na), sl_na⟩)
    (c_na : PySem.W.codeIn K cd_na "_law_names" = true)
    (k_na : PySem.W.keepIn K (.ref f_na) = true)
    (a_va : PySem.W.nsIn K mainGlobals "_law_value" = some (some (.ref f_va)))
    (l_va : K.lookup f_va = some ⟨oc_va, od_va, .func (PySem.W.fnOf "_law_value" "_law_value" (defArgs sValue) (defBody sValue) (defScope sValue) .none kV_va dc_va pm_va an_va cd_va ct_va), sl_va⟩)
    (c_va : PySem.W.codeIn K cd_va "_law_value" = true)
    (k_va : PySem.W.keepIn K (.ref f_va) = true)
    (a_vs : PySem.W.nsIn K mainGlobals "_law_values" = some (some (.ref f_vs)))
    (l_vs : K.lookup f_vs = some ⟨oc_vs, od_vs, .func (PySem.W.fnOf "_law_values" "_law_values" (defArgs sValues) (defBody sValues) (defScope sValues) .none kV_vs dc_vs pm_vs an_vs cd_vs ct_vs), sl_vs⟩)
    (c_vs : PySem.W.codeIn K cd_vs "_law_values" = true)
    (k_vs : PySem.W.keepIn K (.ref f_vs) = true)
    (a_gr : PySem.W.nsIn K mainGlobals "_law_grown" = some (some (.ref f_gr)))
    (l_gr : K.lookup f_gr = some ⟨oc_gr, od_gr, .func (PySem.W.fnOf "_law_grown" "_law_grown" (defArgs sGrown) (defBody sGrown) (defScope sGrown) .none kV_gr dc_gr pm_gr an_gr cd_gr ct_gr), sl_gr⟩)
    (c_gr : PySem.W.codeIn K cd_gr "_law_grown" = true)
    (k_gr : PySem.W.keepIn K (.ref f_gr) = true)
    (a_co : PySem.W.nsIn K mainGlobals "_law_cond" = some (some (.ref f_co)))
    (l_co : K.lookup f_co = some ⟨oc_co, od_co, .func (PySem.W.fnOf "_law_cond" "_law_cond" (defArgs sCond) (defBody sCond) (defScope sCond) .none kV_co dc_co pm_co an_co cd_co ct_co), sl_co⟩)
    (c_co : PySem.W.codeIn K cd_co "_law_cond" = true)
    (k_co : PySem.W.keepIn K (.ref f_co) = true)
    (a_fi : PySem.W.nsIn K mainGlobals "_law_filling" = some (some (.ref f_fi)))
    (l_fi : K.lookup f_fi = some ⟨oc_fi, od_fi, .func (PySem.W.fnOf "_law_filling" "_law_filling" (defArgs sFilling) (defBody sFilling) (defScope sFilling) .none kV_fi dc_fi pm_fi an_fi cd_fi ct_fi), sl_fi⟩)
    (c_fi : PySem.W.codeIn K cd_fi "_law_filling" = true)
    (k_fi : PySem.W.keepIn K (.ref f_fi) = true)
    (a_al : PySem.W.nsIn K mainGlobals "_law_alike" = some (some (.ref f_al)))
    (l_al : K.lookup f_al = some ⟨oc_al, od_al, .func (PySem.W.fnOf "_law_alike" "_law_alike" (defArgs sAlike) (defBody sAlike) (defScope sAlike) .none kV_al dc_al pm_al an_al cd_al ct_al), sl_al⟩)
    (c_al : PySem.W.codeIn K cd_al "_law_alike" = true)
    (k_al : PySem.W.keepIn K (.ref f_al) = true)
    (a_ex : PySem.W.nsIn K mainGlobals "_law_exchanged" = some (some (.ref f_ex)))
    (l_ex : K.lookup f_ex = some ⟨oc_ex, od_ex, .func (PySem.W.fnOf "_law_exchanged" "_law_exchanged" (defArgs sExch) (defBody sExch) (defScope sExch) .none kV_ex dc_ex pm_ex an_ex cd_ex ct_ex), sl_ex⟩)
    (c_ex : PySem.W.codeIn K cd_ex "_law_exchanged" = true)
    (k_ex : PySem.W.keepIn K (.ref f_ex) = true)
    (a_lw : PySem.W.nsIn K mainGlobals "law" = some (some (.ref f_lw)))
    (l_lw : K.lookup f_lw = some ⟨oc_lw, od_lw, .func (PySem.W.fnOf "law" "law" (defArgs sLaw) (defBody sLaw) (defScope sLaw) .none kV_lw dc_lw pm_lw an_lw cd_lw ct_lw), sl_lw⟩)
    (c_lw : PySem.W.codeIn K cd_lw "law" = true)
    (k_lw : PySem.W.keepIn K (.ref f_lw) = true)
    (pgT : PySem.W.plainGet K cT Str.empty = true)
    (hdT : PySem.W.hasDictIn K cT = true)
    (poT : PySem.W.plainOver K cT = true)
    (saT : PySem.W.findIn K (.ref cT) "__setattr__" = some (some (.builtin "object.__setattr__")))
    (mkT : PySem.W.makesIn K cT = true)
    (kcT : PySem.W.keepIn K (.ref cT) = true)
    (haT : PySem.W.findIn K (.ref cT) "__class__" = some (some (.builtin "object.__class__")))
    (hkT : PySem.W.mroIn K cT (.type "object") = some true)
    (ktT : PySem.W.kitOne K (.ref cT) (.ref cC) = some true)
    (pgS : PySem.W.plainGet K cS Str.empty = true)
    (hdS : PySem.W.hasDictIn K cS = true)
    (poS : PySem.W.plainOver K cS = true)
    (saS : PySem.W.findIn K (.ref cS) "__setattr__" = some (some (.builtin "object.__setattr__")))
    (mkS : PySem.W.makesIn K cS = true)
    (kcS : PySem.W.keepIn K (.ref cS) = true)
    (haS : PySem.W.findIn K (.ref cS) "__class__" = some (some (.builtin "object.__class__")))
    (hkS : PySem.W.mroIn K cS (.type "object") = some true)
    (ktS : PySem.W.kitOne K (.ref cS) (.ref cC) = some true)
    (pgA : PySem.W.plainGet K cA Str.empty = true)
    (hdA : PySem.W.hasDictIn K cA = true)
    (poA : PySem.W.plainOver K cA = true)
    (saA : PySem.W.findIn K (.ref cA) "__setattr__" = some (some (.builtin "object.__setattr__")))
    (mkA : PySem.W.makesIn K cA = true)
    (kcA : PySem.W.keepIn K (.ref cA) = true)
    (haA : PySem.W.findIn K (.ref cA) "__class__" = some (some (.builtin "object.__class__")))
    (hkA : PySem.W.mroIn K cA (.type "object") = some true)
    (ktA : PySem.W.kitOne K (.ref cA) (.ref cC) = some true)
    (pgO : PySem.W.plainGet K cO Str.empty = true)
    (hdO : PySem.W.hasDictIn K cO = true)
    (poO : PySem.W.plainOver K cO = true)
    (saO : PySem.W.findIn K (.ref cO) "__setattr__" = some (some (.builtin "object.__setattr__")))
    (mkO : PySem.W.makesIn K cO = true)
    (kcO : PySem.W.keepIn K (.ref cO) = true)
    (haO : PySem.W.findIn K (.ref cO) "__class__" = some (some (.builtin "object.__class__")))
    (hkO : PySem.W.mroIn K cO (.type "object") = some true)
    (ktO : PySem.W.kitOne K (.ref cO) (.ref cC) = some true)
    (pgP : PySem.W.plainGet K cP Str.empty = true)
    (hdP : PySem.W.hasDictIn K cP = true)
    (poP : PySem.W.plainOver K cP = true)
    (saP : PySem.W.findIn K (.ref cP) "__setattr__" = some (some (.builtin "object.__setattr__")))
    (mkP : PySem.W.makesIn K cP = true)
    (kcP : PySem.W.keepIn K (.ref cP) = true)
    (haP : PySem.W.findIn K (.ref cP) "__class__" = some (some (.builtin "object.__class__")))
    (hkP : PySem.W.mroIn K cP (.type "object") = some true)
    (ktP : PySem.W.kitOne K (.ref cP) (.ref cC) = some true)
    (hn : PySem.W.specialIn K (.builtin "object.__class__") "__get__" = some (some (.builtin "getset_descriptor.__get__")))
    (ht : PySem.W.takesIn K (.builtin "object.__class__") = some true)
    (qT_said : PySem.W.findIn K (.ref cT) "said" = some none)
    (qS_one : PySem.W.findIn K (.ref cS) "one" = some none)
    (qS_other : PySem.W.findIn K (.ref cS) "other" = some none)
    (qA_parts : PySem.W.findIn K (.ref cA) "parts" = some none)
    (qO_parts : PySem.W.findIn K (.ref cO) "parts" = some none)
    (qP_part : PySem.W.findIn K (.ref cP) "part" = some none)
    (z_fIsi : PySem.W.nsIn K mainGlobals "isinstance" = some none)
    (z_fStr : PySem.W.nsIn K mainGlobals "str" = some none)
    (z_fTuple : PySem.W.nsIn K mainGlobals "tuple" = some none)
    (z_fAll : PySem.W.nsIn K mainGlobals "all" = some none)
    (z_fAny : PySem.W.nsIn K mainGlobals "any" = some none)
    (z_fSorted : PySem.W.nsIn K mainGlobals "sorted" = some none)
    (z_fSet : PySem.W.nsIn K mainGlobals "set" = some none)
    (z_fLen : PySem.W.nsIn K mainGlobals "len" = some none)
    (z_fRange : PySem.W.nsIn K mainGlobals "range" = some none)
    (z_fEnum : PySem.W.nsIn K mainGlobals "enumerate" = some none)
    (z_fDict : PySem.W.nsIn K mainGlobals "dict" = some none)
    (z_fMax : PySem.W.nsIn K mainGlobals "max" = some none)
    (z_fList : PySem.W.nsIn K mainGlobals "list" = some none)
    (z_fBool : PySem.W.nsIn K mainGlobals "bool" = some none)
    (most : PySem.W.nsIn K mainGlobals "MOST" = some (some (.int 1000 tkM)))
    : ∃ fd : FuncData, (∀ (s : Shared) (v : Value), BindsTo s fd ⟨[v], []⟩ [("_law_script", v)]) ∧ ∀ base : Heap, K.In base → base.Ns mainGlobals mg → FnOk l.prog w K mg base CX0 24 fa fd ["_law_script"] (spLaw K) := by
  have e := hfa.symm.trans (PySem.W.mg_of X G a_lw)
  cases e
  have T : Txt K mg ⟨cC, cT, cS, cA, cO, cP⟩ := ⟨⟨pgT, hdT, poT, saT⟩, ⟨pgS, hdS, poS, saS⟩, ⟨pgA, hdA, poA, saA⟩, ⟨pgO, hdO, poO, saO⟩, ⟨pgP, hdP, poP, saP⟩, qT_said, qS_one, qS_other, qA_parts, qO_parts, qP_part,
    PySem.W.mg_none_of X G z_fIsi, PySem.W.mg_none_of X G z_fStr, PySem.W.mg_none_of X G z_fTuple, PySem.W.mg_none_of X G z_fAll, PySem.W.mg_none_of X G z_fAny, PySem.W.mg_none_of X G z_fSorted, PySem.W.mg_none_of X G z_fSet, PySem.W.mg_none_of X G z_fLen, PySem.W.mg_none_of X G z_fRange, PySem.W.mg_none_of X G z_fEnum, PySem.W.mg_none_of X G z_fDict, PySem.W.mg_none_of X G z_fMax, PySem.W.mg_none_of X G z_fList, PySem.W.mg_none_of X G z_fBool⟩
  have I : IsCs K ⟨cC, cT, cS, cA, cO, cP⟩ := ⟨hn, ht, ⟨haT, hkT, ktT⟩, ⟨haS, hkS, ktS⟩, ⟨haA, hkA, ktA⟩, ⟨haO, hkO, ktO⟩, ⟨haP, hkP, ktP⟩⟩
  have F_gp := fun_mk (st := sIsGap) l_gp c_gp k_gp
  have F_ct := fun_mk (st := sComeTo) l_ct c_ct k_ct
  have F_tI := fun_mk (st := sTInit) l_tI c_tI k_tI
  have F_sI := fun_mk (st := sSInit) l_sI c_sI k_sI
  have F_vI := fun_mk (st := sVInit) l_vI c_vI k_vI
  have F_pI := fun_mk (st := sPInit) l_pI c_pI k_pI
  have F_tH := fun_mk (st := sTHolds) l_tH c_tH k_tH
  have F_sH := fun_mk (st := sSHolds) l_sH c_sH k_sH
  have F_aH := fun_mk (st := sAHolds) l_aH c_aH k_aH
  have F_oH := fun_mk (st := sOHolds) l_oH c_oH k_oH
  have F_pH := fun_mk (st := sPHolds) l_pH c_pH k_pH
  have F_cC := fun_mk (st := sCCells) l_cC c_cC k_cC
  have F_sC := fun_mk (st := sSCells) l_sC c_sC k_sC
  have F_vC := fun_mk (st := sVCells) l_vC c_vC k_vC
  have F_pC := fun_mk (st := sPCells) l_pC c_pC k_pC
  have F_ga := fun_mk (st := sGaps) l_ga c_ga k_ga
  have F_tr := fun_mk (st := sTruth) l_tr c_tr k_tr
  have F_bo := fun_mk (st := sBound) l_bo c_bo k_bo
  have F_fr := fun_mk (st := sFresh) l_fr c_fr k_fr
  have F_ki := fun_mk (st := sKinds) l_ki c_ki k_ki
  have F_at := fun_mk (st := sAt) l_at c_at k_at
  have F_na := fun_mk (st := sNames) l_na c_na k_na
  have F_va := fun_mk (st := sValue) l_va c_va k_va
  have F_vs := fun_mk (st := sValues) l_vs c_vs k_vs
  have F_gr := fun_mk (st := sGrown) l_gr c_gr k_gr
  have F_co := fun_mk (st := sCond) l_co c_co k_co
  have F_fi := fun_mk (st := sFilling) l_fi c_fi k_fi
  have F_al := fun_mk (st := sAlike) l_al c_al k_al
  have F_ex := fun_mk (st := sExch) l_ex c_ex k_ex
  have F_lw := fun_mk (st := sLaw) l_lw c_lw k_lw
  have b_gp := F_gp.binds (ps := ["cell"]) fun _ _ _ _ _ _ us hl => match us, hl with | [_], _ => rfl
  have b_ct := F_ct.binds (ps := ["cell", "filling"]) fun _ _ _ _ _ _ us hl => match us, hl with | [_, _], _ => rfl
  have b_tI := F_tI.binds (ps := ["self", "said"]) fun _ _ _ _ _ _ us hl => match us, hl with | [_, _], _ => rfl
  have b_sI := F_sI.binds (ps := ["self", "one", "other"]) fun _ _ _ _ _ _ us hl => match us, hl with | [_, _, _], _ => rfl
  have b_vI := F_vI.binds (ps := ["self", "parts"]) fun _ _ _ _ _ _ us hl => match us, hl with | [_, _], _ => rfl
  have b_pI := F_pI.binds (ps := ["self", "part"]) fun _ _ _ _ _ _ us hl => match us, hl with | [_, _], _ => rfl
  have b_tH := F_tH.binds (ps := ["self", "filling"]) fun _ _ _ _ _ _ us hl => match us, hl with | [_, _], _ => rfl
  have b_sH := F_sH.binds (ps := ["self", "filling"]) fun _ _ _ _ _ _ us hl => match us, hl with | [_, _], _ => rfl
  have b_aH := F_aH.binds (ps := ["self", "filling"]) fun _ _ _ _ _ _ us hl => match us, hl with | [_, _], _ => rfl
  have b_oH := F_oH.binds (ps := ["self", "filling"]) fun _ _ _ _ _ _ us hl => match us, hl with | [_, _], _ => rfl
  have b_pH := F_pH.binds (ps := ["self", "filling"]) fun _ _ _ _ _ _ us hl => match us, hl with | [_, _], _ => rfl
  have b_cC := F_cC.binds (ps := ["self"]) fun _ _ _ _ _ _ us hl => match us, hl with | [_], _ => rfl
  have b_sC := F_sC.binds (ps := ["self"]) fun _ _ _ _ _ _ us hl => match us, hl with | [_], _ => rfl
  have b_vC := F_vC.binds (ps := ["self"]) fun _ _ _ _ _ _ us hl => match us, hl with | [_], _ => rfl
  have b_pC := F_pC.binds (ps := ["self"]) fun _ _ _ _ _ _ us hl => match us, hl with | [_], _ => rfl
  have b_ga := F_ga.binds (ps := ["self"]) fun _ _ _ _ _ _ us hl => match us, hl with | [_], _ => rfl
  have b_tr := F_tr.binds (ps := ["self", "filling"]) fun _ _ _ _ _ _ us hl => match us, hl with | [_, _], _ => rfl
  have b_bo := F_bo.binds (ps := ["gaps", "values"]) fun _ _ _ _ _ _ us hl => match us, hl with | [_, _], _ => rfl
  have b_fr := F_fr.binds (ps := ["values", "many"]) fun _ _ _ _ _ _ us hl => match us, hl with | [_, _], _ => rfl
  have b_ki := F_ki.binds (ps := ["gaps", "values"]) fun _ _ _ _ _ _ us hl => match us, hl with | [_, _], _ => rfl
  have b_at := F_at.binds (ps := ["_law_script", "_law_k"]) fun _ _ _ _ _ _ us hl => match us, hl with | [_, _], _ => rfl
  have b_na := F_na.binds (ps := ["_law_cell"]) fun _ _ _ _ _ _ us hl => match us, hl with | [_], _ => rfl
  have b_va := F_va.binds (ps := ["_law_cell"]) fun _ _ _ _ _ _ us hl => match us, hl with | [_], _ => rfl
  have b_vs := F_vs.binds (ps := ["_law_script"]) fun _ _ _ _ _ _ us hl => match us, hl with | [_], _ => rfl
  have b_gr := F_gr.binds (ps := ["_law_stack", "_law_cell", "_law_pool"]) fun _ _ _ _ _ _ us hl => match us, hl with | [_, _, _], _ => rfl
  have b_co := F_co.binds (ps := ["_law_script", "_law_pool"]) fun _ _ _ _ _ _ us hl => match us, hl with | [_, _], _ => rfl
  have b_fi := F_fi.binds (ps := ["_law_script", "_law_gaps", "_law_values_here"]) fun _ _ _ _ _ _ us hl => match us, hl with | [_, _, _], _ => rfl
  have b_al := F_al.binds (ps := ["_law_gaps", "_law_values_here", "_law_one", "_law_other"]) fun _ _ _ _ _ _ us hl => match us, hl with | [_, _, _, _], _ => rfl
  have b_ex := F_ex.binds (ps := ["_law_filling_here", "_law_values_here"]) fun _ _ _ _ _ _ us hl => match us, hl with | [_, _], _ => rfl
  refine ⟨PySem.W.fnOf "law" "law" (defArgs sLaw) (defBody sLaw) (defScope sLaw) .none kV_lw dc_lw pm_lw an_lw cd_lw ct_lw, fun s v => .of_eq rfl, fun base _ _ => ?_⟩
  have D_gp : Def l.prog w K mg base 1 "is_gap" ["cell"] spIsGap := ⟨_, _, ok_isGap F_gp T, PySem.W.mg_of X G a_gp, k_gp, b_gp⟩
  have D_ct : Def l.prog w K mg base 2 "come_to" ["cell", "filling"] spComeTo := ⟨_, _, ok_comeTo F_ct D_gp, PySem.W.mg_of X G a_ct, k_ct, b_ct⟩
  have HH := holds_all (P := l.prog) (w := w) (base := base) T D_ct F_tH ⟨mTh, i_tH, k_tH⟩ b_tH F_sH ⟨mSh, i_sH, k_sH⟩ b_sH F_aH ⟨mAh, i_aH, k_aH⟩ b_aH F_oH ⟨mOh, i_oH, k_oH⟩ b_oH F_pH ⟨mPh, i_pH, k_pH⟩ b_pH 19
  have HC := cells_all (P := l.prog) (w := w) (base := base) T F_cC ⟨mTc, i_cC, k_cC⟩ b_cC F_sC ⟨mSc, i_sC, k_sC⟩ b_sC F_vC ⟨mAc, i_vC, k_vC⟩ b_vC ⟨mOc, i_vC, k_vC⟩ F_pC ⟨mPc, i_pC, k_pC⟩ b_pC 19
  have OG := ok_gaps (P := l.prog) (w := w) (base := base) (k := 20) (n := 19) (by decide) F_ga T HC D_gp
  have GG : Five l.prog w K mg base 21 ⟨cC, cT, cS, cA, cO, cP⟩ "gaps" ["self"] (spGaps ⟨cC, cT, cS, cA, cO, cP⟩ 19) (spGaps ⟨cC, cT, cS, cA, cO, cP⟩ 19) (spGaps ⟨cC, cT, cS, cA, cO, cP⟩ 19) (spGaps ⟨cC, cT, cS, cA, cO, cP⟩ 19) (spGaps ⟨cC, cT, cS, cA, cO, cP⟩ 19) :=
    ⟨⟨_, _, OG, ⟨mTg, i_ga, k_ga⟩, b_ga⟩, ⟨_, _, OG, ⟨mSg, i_ga, k_ga⟩, b_ga⟩, ⟨_, _, OG, ⟨mAg, i_ga, k_ga⟩, b_ga⟩, ⟨_, _, OG, ⟨mOg, i_ga, k_ga⟩, b_ga⟩, ⟨_, _, OG, ⟨mPg, i_ga, k_ga⟩, b_ga⟩⟩
  have OT := ok_truth (P := l.prog) (w := w) (base := base) (k := 22) (j := 21) (by decide) F_tr T HH GG
  have GT : Five l.prog w K mg base 23 ⟨cC, cT, cS, cA, cO, cP⟩ "truth" ["self", "filling"] (spTruth ⟨cC, cT, cS, cA, cO, cP⟩ 19) (spTruth ⟨cC, cT, cS, cA, cO, cP⟩ 19) (spTruth ⟨cC, cT, cS, cA, cO, cP⟩ 19) (spTruth ⟨cC, cT, cS, cA, cO, cP⟩ 19) (spTruth ⟨cC, cT, cS, cA, cO, cP⟩ 19) :=
    ⟨⟨_, _, OT, ⟨mTt, i_tr, k_tr⟩, b_tr⟩, ⟨_, _, OT, ⟨mSt, i_tr, k_tr⟩, b_tr⟩, ⟨_, _, OT, ⟨mAt, i_tr, k_tr⟩, b_tr⟩, ⟨_, _, OT, ⟨mOt, i_tr, k_tr⟩, b_tr⟩, ⟨_, _, OT, ⟨mPt, i_tr, k_tr⟩, b_tr⟩⟩
  have D_bo : Def l.prog w K mg base 1 "bound" ["gaps", "values"] spBound := ⟨_, _, ok_bound F_bo T, PySem.W.mg_of X G a_bo, k_bo, b_bo⟩
  have D_fr : Def l.prog w K mg base 1 "fresh" ["values", "many"] (spFresh K) := ⟨_, _, ok_fresh F_fr T, PySem.W.mg_of X G a_fr, k_fr, b_fr⟩
  have D_ki : Def l.prog w K mg base 2 "kinds" ["gaps", "values"] (spKinds K) := ⟨_, _, ok_kinds F_ki T (PySem.W.mg_of X G most) D_bo D_fr, PySem.W.mg_of X G a_ki, k_ki, b_ki⟩
  have D_at : Def l.prog w K mg base 1 "_law_at" ["_law_script", "_law_k"] (spAt K) := ⟨_, _, ok_at F_at, PySem.W.mg_of X G a_at, k_at, b_at⟩
  have D_na : Def l.prog w K mg base 1 "_law_names" ["_law_cell"] spNames := ⟨_, _, ok_names F_na T, PySem.W.mg_of X G a_na, k_na, b_na⟩
  have D_va : Def l.prog w K mg base 1 "_law_value" ["_law_cell"] spValue := ⟨_, _, ok_value F_va, PySem.W.mg_of X G a_va, k_va, b_va⟩
  have D_vs : Def l.prog w K mg base 2 "_law_values" ["_law_script"] (spValues K) := ⟨_, _, ok_values F_vs T D_at D_va, PySem.W.mg_of X G a_vs, k_vs, b_vs⟩
  have MM : Makers l.prog w K mg base ⟨cC, cT, cS, cA, cO, cP⟩ := ⟨⟨_, _, ok_TInit F_tI T, ⟨mkT, mTi, i_tI, kcT⟩, PySem.W.mg_of X G nT, b_tI⟩, ⟨_, _, ok_SInit F_sI T, ⟨mkS, mSi, i_sI, kcS⟩, PySem.W.mg_of X G nS, b_sI⟩, ⟨_, _, ok_VInit F_vI T T.clA T.nPartsA, ⟨mkA, mAi, i_vI, kcA⟩, PySem.W.mg_of X G nA, b_vI⟩, ⟨_, _, ok_VInit F_vI T T.clO T.nPartsO, ⟨mkO, mOi, i_vI, kcO⟩, PySem.W.mg_of X G nO, b_vI⟩, ⟨_, _, ok_PInit F_pI T, ⟨mkP, mPi, i_pI, kcP⟩, PySem.W.mg_of X G nP, b_pI⟩⟩
  have D_gr : Def l.prog w K mg base 3 "_law_grown" ["_law_stack", "_law_cell", "_law_pool"] (spGrown K ⟨cC, cT, cS, cA, cO, cP⟩) := ⟨_, _, ok_grown F_gr T MM, PySem.W.mg_of X G a_gr, k_gr, b_gr⟩
  have D_co : Def l.prog w K mg base 4 "_law_cond" ["_law_script", "_law_pool"] (spCond K ⟨cC, cT, cS, cA, cO, cP⟩) := ⟨_, _, ok_cond F_co T MM D_at D_gr, PySem.W.mg_of X G a_co, k_co, b_co⟩
  have D_fi : Def l.prog w K mg base 2 "_law_filling" ["_law_script", "_law_gaps", "_law_values_here"] (spFilling K) := ⟨_, _, ok_filling F_fi T D_at D_va, PySem.W.mg_of X G a_fi, k_fi, b_fi⟩
  have D_al : Def l.prog w K mg base 1 "_law_alike" ["_law_gaps", "_law_values_here", "_law_one", "_law_other"] (spAlike K) := ⟨_, _, ok_alike F_al, PySem.W.mg_of X G a_al, k_al, b_al⟩
  have D_ex : Def l.prog w K mg base 1 "_law_exchanged" ["_law_filling_here", "_law_values_here"] (spExch K) := ⟨_, _, ok_exch F_ex T, PySem.W.mg_of X G a_ex, k_ex, b_ex⟩
  exact ok_law F_lw T I (PySem.W.mg_of X G nC) D_at D_na D_vs D_co D_fi D_ex D_ki D_al GT
theorem walk {l : PySem.W.OpenLaw} {q : Program} {loose : List Str} {XP : (Str → Option Value) → Heap → Prop} {YP : World → Heap → Prop} {d : DefRec} {K : Params → PySem.W.Frag} (hn : l.most = some 63) (hdf : d.params.defaults = [])
    (hY : ∀ (w : World) (h : Heap), YP w h → (K w.params).In h)
    (F : ∀ (w : World) (mg : Str → Option Value) (fa : Addr) (h : Heap), (K w.params).In h → h.Ns mainGlobals mg → mg d.name = some (.ref fa) →
      ∃ fd : FuncData, (∀ (s : Shared) (u : Value), BindsTo s fd ⟨[u], []⟩ [("_law_script", u)]) ∧ ∀ base : Heap, (K w.params).In base → base.Ns mainGlobals mg → FnOk l.prog w (K w.params) mg base CX0 24 fa fd ["_law_script"] (spLaw (K w.params))) :
    PySem.W.WalkO q loose XP YP l.row.toRowW d [] (fun f vs => PySem.call f vs) :=
  L2.walk_of (n := 63) (k := 24) (x := "_law_script") (CX := fun _ => CX0) (sp := fun w => spLaw (K w.params)) hn (by decide) hdf ⟨rfl, by decide, by decide⟩ hY F (fun _ _ a ns hl _ hS => ⟨a, ns, rfl, hS, hl, fun _ => rfl⟩) fun _ _ _ _ _ z => z
end K17
open PySem PySem.W PyProof.Rows in
set_option Elab.async false in
set_option maxRecDepth 100000 in
set_option maxHeartbeats 0 in
theorem PySem.Challenge.cw_maybetables_k17_whole_one_truth_for_a_ki_holds : PySem.Challenge.rw_maybetables_k17_whole_one_truth_for_a_ki.Holds := by
  w_on; o_law; k_head; (case hw => w_witness2)
  k_fill
  refine K17.walk (l := PySem.Challenge.rw_maybetables_k17_whole_one_truth_for_a_ki) rfl rfl (fun w h Y => PySem.W.kIn_of Y) ?F
  case F =>
    intro w mg fa h KX G hmg
    refine' K17.all_mk KX G hmg ?nC ?nT ?nS ?nA ?nO ?nP ?mTi ?i_tI ?l_tI ?c_tI ?k_tI ?mTh ?i_tH ?l_tH ?c_tH ?k_tH ?mTc ?i_cC ?l_cC ?c_cC ?k_cC ?mTg ?i_ga ?l_ga ?c_ga ?k_ga ?mTt ?i_tr ?l_tr ?c_tr ?k_tr ?mSi ?i_sI ?l_sI ?c_sI ?k_sI ?mSh ?i_sH ?l_sH ?c_sH ?k_sH ?mSc ?i_sC ?l_sC ?c_sC ?k_sC ?mSg ?mSt ?mAi ?i_vI ?l_vI ?c_vI ?k_vI ?mAh ?i_aH ?l_aH ?c_aH ?k_aH ?mAc ?i_vC ?l_vC ?c_vC ?k_vC ?mAg ?mAt ?mOi ?mOh ?i_oH ?l_oH ?c_oH ?k_oH ?mOc ?mOg ?mOt ?mPi ?i_pI ?l_pI ?c_pI ?k_pI ?mPh ?i_pH ?l_pH ?c_pH ?k_pH ?mPc ?i_pC ?l_pC ?c_pC ?k_pC ?mPg ?mPt ?a_gp ?l_gp ?c_gp ?k_gp ?a_ct ?l_ct ?c_ct ?k_ct ?a_bo ?l_bo ?c_bo ?k_bo ?a_fr ?l_fr ?c_fr ?k_fr ?a_ki ?l_ki ?c_ki ?k_ki ?a_at ?l_at ?c_at ?k_at ?a_na ?l_na ?c_na ?k_na ?a_va ?l_va ?c_va ?k_va ?a_vs ?l_vs ?c_vs ?k_vs ?a_gr ?l_gr ?c_gr ?k_gr ?a_co ?l_co ?c_co ?k_co ?a_fi ?l_fi ?c_fi ?k_fi ?a_al ?l_al ?c_al ?k_al ?a_ex ?l_ex ?c_ex ?k_ex ?a_lw ?l_lw ?c_lw ?k_lw ?pgT ?hdT ?poT ?saT ?mkT ?kcT ?haT ?hkT ?ktT ?pgS ?hdS ?poS ?saS ?mkS ?kcS ?haS ?hkS ?ktS ?pgA ?hdA ?poA ?saA ?mkA ?kcA ?haA ?hkA ?ktA ?pgO ?hdO ?poO ?saO ?mkO ?kcO ?haO ?hkO ?ktO ?pgP ?hdP ?poP ?saP ?mkP ?kcP ?haP ?hkP ?ktP ?hn ?ht ?qT_said ?qS_one ?qS_other ?qA_parts ?qO_parts ?qP_part ?z_fIsi ?z_fStr ?z_fTuple ?z_fAll ?z_fAny ?z_fSorted ?z_fSet ?z_fLen ?z_fRange ?z_fEnum ?z_fDict ?z_fMax ?z_fList ?z_fBool ?most
    (case nC => k_is)
    (case nT => k_is)
    (case nS => k_is)
    (case nA => k_is)
    (case nO => k_is)
    (case nP => k_is)
    (case mTi => k_is)
    (case i_tI => k_is)
    (case l_tI => k_is)
    (case c_tI => k_is)
    (case k_tI => k_is)
    (case mTh => k_is)
    (case i_tH => k_is)
    (case l_tH => k_is)
    (case c_tH => k_is)
    (case k_tH => k_is)
    (case mTc => k_is)
    (case i_cC => k_is)
    (case l_cC => k_is)
    (case c_cC => k_is)
    (case k_cC => k_is)
    (case mTg => k_is)
    (case i_ga => k_is)
    (case l_ga => k_is)
    (case c_ga => k_is)
    (case k_ga => k_is)
    (case mTt => k_is)
    (case i_tr => k_is)
    (case l_tr => k_is)
    (case c_tr => k_is)
    (case k_tr => k_is)
    (case mSi => k_is)
    (case i_sI => k_is)
    (case l_sI => k_is)
    (case c_sI => k_is)
    (case k_sI => k_is)
    (case mSh => k_is)
    (case i_sH => k_is)
    (case l_sH => k_is)
    (case c_sH => k_is)
    (case k_sH => k_is)
    (case mSc => k_is)
    (case i_sC => k_is)
    (case l_sC => k_is)
    (case c_sC => k_is)
    (case k_sC => k_is)
    (case mSg => k_is)
    (case mSt => k_is)
    (case mAi => k_is)
    (case i_vI => k_is)
    (case l_vI => k_is)
    (case c_vI => k_is)
    (case k_vI => k_is)
    (case mAh => k_is)
    (case i_aH => k_is)
    (case l_aH => k_is)
    (case c_aH => k_is)
    (case k_aH => k_is)
    (case mAc => k_is)
    (case i_vC => k_is)
    (case l_vC => k_is)
    (case c_vC => k_is)
    (case k_vC => k_is)
    (case mAg => k_is)
    (case mAt => k_is)
    (case mOi => k_is)
    (case mOh => k_is)
    (case i_oH => k_is)
    (case l_oH => k_is)
    (case c_oH => k_is)
    (case k_oH => k_is)
    (case mOc => k_is)
    (case mOg => k_is)
    (case mOt => k_is)
    (case mPi => k_is)
    (case i_pI => k_is)
    (case l_pI => k_is)
    (case c_pI => k_is)
    (case k_pI => k_is)
    (case mPh => k_is)
    (case i_pH => k_is)
    (case l_pH => k_is)
    (case c_pH => k_is)
    (case k_pH => k_is)
    (case mPc => k_is)
    (case i_pC => k_is)
    (case l_pC => k_is)
    (case c_pC => k_is)
    (case k_pC => k_is)
    (case mPg => k_is)
    (case mPt => k_is)
    (case a_gp => k_is)
    (case l_gp => k_is)
    (case c_gp => k_is)
    (case k_gp => k_is)
    (case a_ct => k_is)
    (case l_ct => k_is)
    (case c_ct => k_is)
    (case k_ct => k_is)
    (case a_bo => k_is)
    (case l_bo => k_is)
    (case c_bo => k_is)
    (case k_bo => k_is)
    (case a_fr => k_is)
    (case l_fr => k_is)
    (case c_fr => k_is)
    (case k_fr => k_is)
    (case a_ki => k_is)
    (case l_ki => k_is)
    (case c_ki => k_is)
    (case k_ki => k_is)
    (case a_at => k_is)
    (case l_at => k_is)
    (case c_at => k_is)
    (case k_at => k_is)
    (case a_na => k_is)
    (case l_na => k_is)
    (case c_na => k_is)
    (case k_na => k_is)
    (case a_va => k_is)
    (case l_va => k_is)
    (case c_va => k_is)
    (case k_va => k_is)
    (case a_vs => k_is)
    (case l_vs => k_is)
    (case c_vs => k_is)
    (case k_vs => k_is)
    (case a_gr => k_is)
    (case l_gr => k_is)
    (case c_gr => k_is)
    (case k_gr => k_is)
    (case a_co => k_is)
    (case l_co => k_is)
    (case c_co => k_is)
    (case k_co => k_is)
    (case a_fi => k_is)
    (case l_fi => k_is)
    (case c_fi => k_is)
    (case k_fi => k_is)
    (case a_al => k_is)
    (case l_al => k_is)
    (case c_al => k_is)
    (case k_al => k_is)
    (case a_ex => k_is)
    (case l_ex => k_is)
    (case c_ex => k_is)
    (case k_ex => k_is)
    (case a_lw => k_is)
    (case l_lw => k_is)
    (case c_lw => k_is)
    (case k_lw => k_is)
    (case pgT => k_is)
    (case hdT => k_is)
    (case poT => k_is)
    (case saT => k_is)
    (case mkT => k_is)
    (case kcT => k_is)
    (case haT => k_is)
    (case hkT => k_is)
    (case ktT => kit_is)
    (case pgS => k_is)
    (case hdS => k_is)
    (case poS => k_is)
    (case saS => k_is)
    (case mkS => k_is)
    (case kcS => k_is)
    (case haS => k_is)
    (case hkS => k_is)
    (case ktS => kit_is)
    (case pgA => k_is)
    (case hdA => k_is)
    (case poA => k_is)
    (case saA => k_is)
    (case mkA => k_is)
    (case kcA => k_is)
    (case haA => k_is)
    (case hkA => k_is)
    (case ktA => kit_is)
    (case pgO => k_is)
    (case hdO => k_is)
    (case poO => k_is)
    (case saO => k_is)
    (case mkO => k_is)
    (case kcO => k_is)
    (case haO => k_is)
    (case hkO => k_is)
    (case ktO => kit_is)
    (case pgP => k_is)
    (case hdP => k_is)
    (case poP => k_is)
    (case saP => k_is)
    (case mkP => k_is)
    (case kcP => k_is)
    (case haP => k_is)
    (case hkP => k_is)
    (case ktP => kit_is)
    (case hn => k_is)
    (case ht => k_is)
    (case qT_said => k_is)
    (case qS_one => k_is)
    (case qS_other => k_is)
    (case qA_parts => k_is)
    (case qO_parts => k_is)
    (case qP_part => k_is)
    (case z_fIsi => k_is)
    (case z_fStr => k_is)
    (case z_fTuple => k_is)
    (case z_fAll => k_is)
    (case z_fAny => k_is)
    (case z_fSorted => k_is)
    (case z_fSet => k_is)
    (case z_fLen => k_is)
    (case z_fRange => k_is)
    (case z_fEnum => k_is)
    (case z_fDict => k_is)
    (case z_fMax => k_is)
    (case z_fList => k_is)
    (case z_fBool => k_is)
    (case most => k_is)
