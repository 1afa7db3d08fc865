import PyProof.Rows.All
import Wide.All
import OpenK.AllK
import Wide.FinOn
import PyProof.RangeIter
import HandS.ForMost
import HandS.ExcOwn
import HandS.ExcCtx
import HandS.ExcInit
import HandS.HotCalls
import KE.KItemsList
import KE.KDictList
import HandS.ListItems
import HandS.ExcInitHot
import HandS.Defaults
import HandS.Property
import HandS.IsInst
import HandS.Star
import HandS.GenList
import HandS.Lambda
import KE.SortKeyHeap
import KE.KSortKey
import KE.KCallOwn
import HandS.Codes
import HandS.MakeKwOnly
import HandS.ExcField
import HandS.Walk
import HandS.DictComp
import HandS.TupAny
import KE.KStateDown
import HandS.Head0
import HandS.Head1
import HandS.Head2
import HandS.HeadHook4
import HandS.HeadWalk
import PySem.Challenge.RW_grownfiles_k65_whole_idle_rows_on_disks
/-! ## GfA -/
/-! Plain mathematics 1: the book's step, the choices, the layers, the fullest. No program here. -/
namespace Gf
structure Bk where
  first : Int
  roof : Int
  top : Int
  bot : Int
def partOf (b : Bk) (h : Int) : Int := -((-h * b.top) / b.bot)
def stepB (b : Bk) (h : Int) : Int :=
  if partOf b h < b.first then b.first else if partOf b h < b.roof then partOf b h else b.roof
structure Bk.Ok (b : Bk) : Prop where
  f1 : 1 ≤ b.first
  fr : b.first ≤ b.roof
  t1 : 1 ≤ b.top
  b1 : 1 ≤ b.bot
theorem step_ge {b : Bk} (hb : b.Ok) (h : Int) : b.first ≤ stepB b h := by
  unfold stepB
  have := hb.fr
  split
  · omega
  · split <;> omega
theorem step_pos {b : Bk} (hb : b.Ok) (h : Int) : 1 ≤ stepB b h := by
  have := step_ge hb h
  have := hb.f1
  omega
theorem step_roof {b : Bk} (hb : b.Ok) (h : Int) : stepB b h ≤ b.roof := by
  unfold stepB
  have := hb.fr
  split
  · omega
  · split <;> omega
theorem step_zero {b : Bk} (hb : b.Ok) : stepB b 0 = b.first := by
  unfold stepB
  have e : partOf b 0 = 0 := by unfold partOf; simp
  rw [e]
  have := hb.f1
  rw [if_pos (by omega)]
/-! ### a dict with int keys, as pairs in order -/
def putK {α : Type} (k : Int) (v : α) : List (Int × α) → List (Int × α)
  | [] => [(k, v)]
  | (j, x) :: r => if j = k then (j, v) :: r else (j, x) :: putK k v r
def getK {α : Type} (k : Int) : List (Int × α) → Option α
  | [] => none
  | (j, x) :: r => if j = k then some x else getK k r
theorem getK_putK {α : Type} (k j : Int) (v : α) : ∀ l : List (Int × α), getK j (putK k v l) = if j = k then some v else getK j l
  | [] => by
    show (if k = j then some v else none) = _
    by_cases h : j = k
    · subst h; simp [getK]
    · rw [if_neg h, if_neg (fun e => h e.symm)]; rfl
  | (i, x) :: r => by
    unfold putK
    by_cases h : i = k
    · rw [if_pos h]
      show (if i = j then some v else getK j r) = _
      subst h
      by_cases e : j = i
      · subst e; simp
      · rw [if_neg e, if_neg (fun z => e z.symm)]
        show _ = (if i = j then some x else getK j r)
        rw [if_neg (fun z => e z.symm)]
    · rw [if_neg h]
      show (if i = j then some x else getK j (putK k v r)) = _
      rw [getK_putK k j v r]
      show _ = (if j = k then some v else (if i = j then some x else getK j r))
      by_cases e : j = k
      · subst e
        rw [if_pos rfl, if_pos rfl, if_neg h]
      · rw [if_neg e, if_neg e]
theorem getK_mem {α : Type} {k : Int} {v : α} : ∀ {l : List (Int × α)}, getK k l = some v → (k, v) ∈ l
  | [], h => by cases h
  | (j, x) :: r, h => by
    have h' : (if j = k then some x else getK k r) = some v := h
    by_cases e : j = k
    · rw [if_pos e] at h'
      cases h'
      subst e
      exact List.mem_cons_self
    · rw [if_neg e] at h'
      exact List.mem_cons_of_mem _ (getK_mem h')
theorem mem_putK {α : Type} {k : Int} {v : α} {p : Int × α} : ∀ {l : List (Int × α)}, p ∈ putK k v l → p = (k, v) ∨ p ∈ l
  | [], h => by
    have : p = (k, v) := by simpa [putK] using h
    exact .inl this
  | (j, x) :: r, h => by
    unfold putK at h
    by_cases e : j = k
    · rw [if_pos e] at h
      rcases List.mem_cons.mp h with q | q
      · subst e; exact .inl q
      · exact .inr (List.mem_cons_of_mem _ q)
    · rw [if_neg e] at h
      rcases List.mem_cons.mp h with q | q
      · exact .inr (q ▸ List.mem_cons_self)
      · rcases mem_putK q with z | z
        · exact .inl z
        · exact .inr (List.mem_cons_of_mem _ z)
theorem length_putK {α : Type} (k : Int) (v : α) : ∀ l : List (Int × α), (putK k v l).length ≤ l.length + 1
  | [] => by simp [putK]
  | (j, x) :: r => by
    unfold putK
    split
    · simp
    · have := length_putK k v r
      simp only [List.length_cons]
      omega
/-! ### whole choices -/
abbrev Ch := Int × (Int × List Int)
def wcStep (b : Bk) (n : Int) (found : List Ch) (hold : Int) : List Ch :=
  if hold + stepB b hold ≤ n ∧ (∀ x, getK (hold + stepB b hold) found = some x → x.1 < stepB b hold - 1) then
    putK (hold + stepB b hold) (stepB b hold - 1, [hold, 1]) found
  else found
def wc0 (b : Bk) (n : Int) : List Ch := if b.first ≤ n then [(b.first, (b.first - 1, [1]))] else []
/-- behind i turns -/
def wcTo (b : Bk) (n : Int) : Nat → List Ch
  | 0 => wc0 b n
  | i + 1 => wcStep b n (wcTo b n i) (b.first + i)
def wholeM (b : Bk) (n : Int) : List Ch := wcTo b n (n - b.first).toNat
/-- growths of one file, the hold and the idle blocks that they lead to while there is room -/
structure Whole (b : Bk) (n : Int) (t i : Int) (g : List Int) : Prop where
  le : t ≤ n
  how : (t = b.first ∧ i = b.first - 1 ∧ g = [1]) ∨ ∃ h, b.first ≤ h ∧ t = h + stepB b h ∧ i = stepB b h - 1 ∧ g = [h, 1]
theorem wcTo_sound (b : Bk) (n : Int) : ∀ (k : Nat) (c : Ch), c ∈ wcTo b n k → Whole b n c.1 c.2.1 c.2.2
  | 0, c, h => by
    have h' : c ∈ wc0 b n := h
    unfold wc0 at h'
    split at h'
    · rename_i hle
      have : c = (b.first, (b.first - 1, [1])) := by simpa using h'
      subst this
      exact ⟨hle, .inl ⟨rfl, rfl, rfl⟩⟩
    · cases h'
  | k + 1, c, h => by
    have h' : c ∈ wcStep b n (wcTo b n k) (b.first + k) := h
    unfold wcStep at h'
    split at h'
    · rename_i hc
      rcases mem_putK h' with q | q
      · subst q
        exact ⟨hc.1, .inr ⟨b.first + k, by omega, rfl, rfl, rfl⟩⟩
      · exact wcTo_sound b n k c q
    · exact wcTo_sound b n k c h'
/-- nothing is lost from turn to turn -/
theorem wcStep_mono {b : Bk} {n : Int} {l : List Ch} {hold t : Int} {x : Int × List Int} (h : getK t l = some x) : ∃ y, getK t (wcStep b n l hold) = some y ∧ x.1 ≤ y.1 := by
  unfold wcStep
  split
  · rename_i hc
    rw [getK_putK]
    by_cases e : t = hold + stepB b hold
    · rw [if_pos e]
      subst e
      have := hc.2 x h
      exact ⟨_, rfl, by show x.1 ≤ stepB b hold - 1; omega⟩
    · rw [if_neg e]
      exact ⟨x, h, by omega⟩
  · exact ⟨x, h, by omega⟩
theorem wcTo_mono {b : Bk} {n : Int} {t : Int} : ∀ {k j : Nat} {x : Int × List Int}, k ≤ j → getK t (wcTo b n k) = some x → ∃ y, getK t (wcTo b n j) = some y ∧ x.1 ≤ y.1
  | k, 0, x, hk, h => by
    have : k = 0 := by omega
    subst this
    exact ⟨x, h, by omega⟩
  | k, j + 1, x, hk, h => by
    by_cases e : k = j + 1
    · subst e; exact ⟨x, h, by omega⟩
    · obtain ⟨y, hy, ly⟩ := wcTo_mono (k := k) (j := j) (by omega) h
      obtain ⟨z, hz, lz⟩ := wcStep_mono (b := b) (n := n) (hold := b.first + j) hy
      exact ⟨z, hz, by omega⟩
theorem whole_first {b : Bk} {n : Int} (h : b.first ≤ n) : ∃ y, getK b.first (wholeM b n) = some y ∧ b.first - 1 ≤ y.1 := by
  refine wcTo_mono (k := 0) (x := (b.first - 1, [1])) (Nat.zero_le _) ?_
  show getK b.first (wc0 b n) = _
  unfold wc0
  rw [if_pos h]
  simp [getK]
theorem whole_more {b : Bk} (hb : b.Ok) {n h : Int} (h1 : b.first ≤ h) (h2 : h + stepB b h ≤ n) : ∃ y, getK (h + stepB b h) (wholeM b n) = some y ∧ stepB b h - 1 ≤ y.1 := by
  have hs := step_pos hb h
  obtain ⟨k, hk⟩ : ∃ k : Nat, h = b.first + k := ⟨(h - b.first).toNat, by omega⟩
  have key : ∃ y, getK (h + stepB b h) (wcTo b n (k + 1)) = some y ∧ stepB b h - 1 ≤ y.1 := by
    show ∃ y, getK (h + stepB b h) (wcStep b n (wcTo b n k) (b.first + k)) = some y ∧ _
    rw [← hk]
    unfold wcStep
    split
    · rw [getK_putK, if_pos rfl]
      exact ⟨_, rfl, Int.le_refl _⟩
    · rename_i hc
      cases q : getK (h + stepB b h) (wcTo b n k) with
      | none =>
        exfalso
        refine hc ⟨h2, fun x hx => ?_⟩
        rw [q] at hx; cases hx
      | some x =>
        refine ⟨x, rfl, ?_⟩
        by_cases z : x.1 < stepB b h - 1
        · exfalso
          refine hc ⟨h2, fun x' hx => ?_⟩
          rw [q] at hx; cases hx; exact z
        · omega
  obtain ⟨y, hy, ly⟩ := key
  obtain ⟨z, hz, lz⟩ := wcTo_mono (j := (n - b.first).toNat) (by omega) hy
  exact ⟨z, hz, by omega⟩
/-! ### layers -/
structure Cell where
  i : Int
  t : Option Int
  g : Option (List Int)
abbrev Layer := List (Option Cell)
def keep (c : Cell) : Cell := ⟨c.i, some 0, none⟩
def better (h : Option Cell) (x : Int) : Bool := match h with
  | none => true
  | some c => decide (c.i < x)
/-- one place of the inner loop -/
def innerStep (before : Layer) (t i : Int) (g : List Int) (layer : Layer) (held : Nat) : Layer :=
  match before[held]? with
  | some (some a) => if better ((layer[held + t.toNat]?).join) (a.i + i) then layer.set (held + t.toNat) (some ⟨a.i + i, some t, some g⟩) else layer
  | _ => layer
def innerTo (before : Layer) (t i : Int) (g : List Int) (layer : Layer) : Nat → Layer
  | 0 => layer
  | k + 1 => innerStep before t i g (innerTo before t i g layer k) k
def outerStep (n : Int) (before : Layer) (layer : Layer) (c : Ch) : Layer := innerTo before c.1 c.2.1 c.2.2 layer (n - c.1 + 1).toNat
def layer0 (before : Layer) : Layer := before.map (Option.map keep)
def nextLayer (n : Int) (cs : List Ch) (before : Layer) : Layer := cs.foldl (outerStep n before) (layer0 before)
def first0 (n : Int) : Layer := (List.replicate (n + 1).toNat none).set 0 (some ⟨0, none, none⟩)
def layerAt (n : Int) (cs : List Ch) : Nat → Layer
  | 0 => first0 n
  | k + 1 => nextLayer n cs (layerAt n cs k)
def layersM (n : Int) (cs : List Ch) (files : Nat) : List Layer := (List.range (files + 1)).map (layerAt n cs)
theorem innerStep_length {before layer : Layer} {t i : Int} {g : List Int} {k : Nat} : (innerStep before t i g layer k).length = layer.length := by
  unfold innerStep
  split
  · split
    · rw [List.length_set]
    · rfl
  · rfl
theorem innerTo_length {before layer : Layer} {t i : Int} {g : List Int} : ∀ k : Nat, (innerTo before t i g layer k).length = layer.length
  | 0 => rfl
  | k + 1 => by
    show (innerStep _ _ _ _ _ _).length = _
    rw [innerStep_length, innerTo_length k]
theorem outerStep_length {n : Int} {before layer : Layer} {c : Ch} : (outerStep n before layer c).length = layer.length := innerTo_length _
theorem fold_length {n : Int} {before : Layer} : ∀ (cs : List Ch) (layer : Layer), (cs.foldl (outerStep n before) layer).length = layer.length
  | [], _ => rfl
  | c :: cs, layer => by
    rw [List.foldl_cons, fold_length cs]
    exact outerStep_length
theorem nextLayer_length {n : Int} {cs : List Ch} {before : Layer} : (nextLayer n cs before).length = before.length := by
  unfold nextLayer
  rw [fold_length]
  exact List.length_map _
theorem layerAt_length (n : Int) (cs : List Ch) : ∀ k, (layerAt n cs k).length = (n + 1).toNat
  | 0 => by
    show (List.set _ _ _).length = _
    rw [List.length_set, List.length_replicate]
  | k + 1 => by
    show (nextLayer n cs (layerAt n cs k)).length = _
    rw [nextLayer_length, layerAt_length n cs k]
/-- where a cell of the next layer comes from -/
inductive From (n : Int) (cs : List Ch) (before : Layer) (p : Nat) : Cell → Prop where
  | kept (a : Cell) (h : before[p]? = some (some a)) : From n cs before p (keep a)
  | put (a : Cell) (t i : Int) (g : List Int) (q : Nat) (hc : (t, (i, g)) ∈ cs) (hq : (q : Int) + t ≤ n) (ht : 0 ≤ t) (hp : p = q + t.toNat) (h : before[q]? = some (some a)) : From n cs before p ⟨a.i + i, some t, some g⟩
def AllFrom (n : Int) (cs : List Ch) (before layer : Layer) : Prop := ∀ p c, layer[p]? = some (some c) → From n cs before p c
theorem layer0_from {n : Int} {cs : List Ch} {before : Layer} : AllFrom n cs before (layer0 before) := fun p c h => by
  unfold layer0 at h
  rw [List.getElem?_map] at h
  cases q : before[p]? with
  | none => rw [q] at h; cases h
  | some o =>
    rw [q] at h
    cases o with
    | none => cases h
    | some a =>
      have e : some (some (keep a)) = some (some c) := h
      cases e
      exact .kept a q
theorem innerStep_from {n : Int} {cs : List Ch} {before layer : Layer} {t i : Int} {g : List Int} {k : Nat} (hc : (t, (i, g)) ∈ cs) (hk : (k : Int) + t ≤ n) (ht : 0 ≤ t) (h : AllFrom n cs before layer) : AllFrom n cs before (innerStep before t i g layer k) := by
  unfold innerStep
  split
  · rename_i a ha
    split
    · intro p c hp
      by_cases e : k + t.toNat = p
      · subst e
        rw [List.getElem?_set] at hp
        rw [if_pos rfl] at hp
        split at hp
        · have e2 : some (some (⟨a.i + i, some t, some g⟩ : Cell)) = some (some c) := hp
          cases e2
          exact .put a t i g k hc hk ht rfl ha
        · cases hp
      · rw [List.getElem?_set_ne e] at hp
        exact h p c hp
    · exact h
  · exact h
theorem innerTo_from {n : Int} {cs : List Ch} {before layer : Layer} {t i : Int} {g : List Int} (hc : (t, (i, g)) ∈ cs) (ht : 0 ≤ t) (h : AllFrom n cs before layer) : ∀ k : Nat, (k : Int) + t ≤ n + 1 → AllFrom n cs before (innerTo before t i g layer k)
  | 0, _ => h
  | k + 1, hk => innerStep_from hc (by omega) ht (innerTo_from hc ht h k (by omega))
theorem outer_from {n : Int} {cs : List Ch} {before : Layer} (hcs : ∀ c ∈ cs, 0 ≤ c.1 ∧ c.1 ≤ n) : ∀ (l : List Ch) (layer : Layer), (∀ c ∈ l, c ∈ cs) → AllFrom n cs before layer → AllFrom n cs before (l.foldl (outerStep n before) layer)
  | [], _, _, h => h
  | c :: l, layer, hl, h => by
    rw [List.foldl_cons]
    have hc := hl c List.mem_cons_self
    obtain ⟨z1, z2⟩ := hcs c hc
    refine outer_from hcs l _ (fun d hd => hl d (List.mem_cons_of_mem _ hd)) ?_
    exact innerTo_from hc z1 h _ (by omega)
theorem next_from {n : Int} {cs : List Ch} {before : Layer} (hcs : ∀ c ∈ cs, 0 ≤ c.1 ∧ c.1 ≤ n) : AllFrom n cs before (nextLayer n cs before) := outer_from hcs cs _ (fun _ h => h) layer0_from
/-- nothing gets worse -/
def Ge (layer layer' : Layer) : Prop := ∀ (p : Nat) (c : Cell), layer[p]? = some (some c) → ∃ d, layer'[p]? = some (some d) ∧ c.i ≤ d.i
theorem Ge.refl (l : Layer) : Ge l l := fun _ c h => ⟨c, h, Int.le_refl _⟩
theorem Ge.trans {a b c : Layer} (h : Ge a b) (k : Ge b c) : Ge a c := fun p x hx => by
  obtain ⟨y, hy, ly⟩ := h p x hx
  obtain ⟨z, hz, lz⟩ := k p y hy
  exact ⟨z, hz, by omega⟩
theorem innerStep_ge {before layer : Layer} {t i : Int} {g : List Int} {k : Nat} : Ge layer (innerStep before t i g layer k) := by
  unfold innerStep
  split
  · rename_i a ha
    split
    · rename_i hb
      intro p c hp
      by_cases e : k + t.toNat = p
      · subst e
        have hl : k + t.toNat < layer.length := (List.getElem?_eq_some_iff.mp hp).1
        rw [List.getElem?_set_self hl]
        refine ⟨_, rfl, ?_⟩
        rw [hp] at hb
        have z : decide (c.i < a.i + i) = true := hb
        have := of_decide_eq_true z
        show c.i ≤ a.i + i
        omega
      · rw [List.getElem?_set_ne e]
        exact ⟨c, hp, Int.le_refl _⟩
    · exact Ge.refl _
  · exact Ge.refl _
theorem innerTo_ge {before layer : Layer} {t i : Int} {g : List Int} : ∀ {j k : Nat}, j ≤ k → Ge (innerTo before t i g layer j) (innerTo before t i g layer k)
  | j, 0, h => by
    have : j = 0 := by omega
    subst this
    exact Ge.refl _
  | j, k + 1, h => by
    by_cases e : j = k + 1
    · subst e; exact Ge.refl _
    · exact (innerTo_ge (j := j) (k := k) (by omega)).trans innerStep_ge
theorem innerTo_ge0 {before layer : Layer} {t i : Int} {g : List Int} {k : Nat} : Ge layer (innerTo before t i g layer k) := innerTo_ge (j := 0) (Nat.zero_le k)
/-- a place that was asked -/
theorem innerTo_at {before layer : Layer} {t i : Int} {g : List Int} {q k : Nat} {a : Cell} (hq : q < k) (ha : before[q]? = some (some a)) (hl : q + t.toNat < layer.length) :
    ∃ d, (innerTo before t i g layer k)[q + t.toNat]? = some (some d) ∧ a.i + i ≤ d.i := by
  have key : ∃ d, (innerTo before t i g layer (q + 1))[q + t.toNat]? = some (some d) ∧ a.i + i ≤ d.i := by
    show ∃ d, (innerStep before t i g (innerTo before t i g layer q) q)[q + t.toNat]? = some (some d) ∧ _
    have hl' : q + t.toNat < (innerTo before t i g layer q).length := by rw [innerTo_length]; exact hl
    unfold innerStep
    rw [ha]
    show ∃ d, (if better (((innerTo before t i g layer q)[q + t.toNat]?).join) (a.i + i) = true then _ else _)[q + t.toNat]? = some (some d) ∧ _
    split
    · rw [List.getElem?_set_self hl']
      exact ⟨_, rfl, Int.le_refl _⟩
    · rename_i hb
      have e := List.getElem?_eq_getElem hl'
      cases z : (innerTo before t i g layer q)[q + t.toNat]'hl' with
      | none =>
        rw [e, z] at hb
        exact absurd rfl hb
      | some c =>
        rw [z] at e
        refine ⟨c, e, ?_⟩
        rw [e] at hb
        have hb' : ¬ decide (c.i < a.i + i) = true := hb
        have : ¬ c.i < a.i + i := fun w => hb' (decide_eq_true w)
        omega
  obtain ⟨d, hd, ld⟩ := key
  obtain ⟨d', hd', ld'⟩ := innerTo_ge (t := t) (i := i) (g := g) (before := before) (layer := layer) (j := q + 1) (k := k) (by omega) _ d hd
  exact ⟨d', hd', by omega⟩
theorem outer_ge {n : Int} {before : Layer} : ∀ (l : List Ch) (layer : Layer), Ge layer (l.foldl (outerStep n before) layer)
  | [], _ => Ge.refl _
  | c :: l, layer => by
    rw [List.foldl_cons]
    exact (innerTo_ge0 (k := (n - c.1 + 1).toNat)).trans (outer_ge l _)
theorem outer_at {n : Int} {before : Layer} {t i : Int} {g : List Int} {q : Nat} {a : Cell} : ∀ (l : List Ch) (layer : Layer), (t, (i, g)) ∈ l → 0 ≤ t → (q : Int) + t ≤ n → layer.length = (n + 1).toNat → before[q]? = some (some a) →
    ∃ d, (l.foldl (outerStep n before) layer)[q + t.toNat]? = some (some d) ∧ a.i + i ≤ d.i
  | [], _, h, _, _, _, _ => by cases h
  | c :: l, layer, h, ht, hq, hl, ha => by
    rw [List.foldl_cons]
    rcases List.mem_cons.mp h with e | e
    · obtain ⟨d, hd, ld⟩ := innerTo_at (layer := layer) (t := t) (i := i) (g := g) (q := q) (k := (n - t + 1).toNat) (by omega) ha (by omega)
      have e2 : outerStep n before layer c = innerTo before t i g layer (n - t + 1).toNat := by rw [← e]; rfl
      rw [e2]
      obtain ⟨d', hd', ld'⟩ := outer_ge (n := n) (before := before) l _ _ d hd
      exact ⟨d', hd', by omega⟩
    · exact outer_at l _ e ht hq (by rw [outerStep_length]; exact hl) ha
theorem next_keep {n : Int} {cs : List Ch} {before : Layer} {p : Nat} {a : Cell} (ha : before[p]? = some (some a)) : ∃ d, (nextLayer n cs before)[p]? = some (some d) ∧ a.i ≤ d.i := by
  refine outer_ge cs _ p (keep a) ?_
  unfold layer0
  rw [List.getElem?_map, ha]
  rfl
theorem next_put {n : Int} {cs : List Ch} {before : Layer} {t i : Int} {g : List Int} {q : Nat} {a : Cell} (hc : (t, (i, g)) ∈ cs) (ht : 0 ≤ t) (hq : (q : Int) + t ≤ n) (hl : before.length = (n + 1).toNat) (ha : before[q]? = some (some a)) :
    ∃ d, (nextLayer n cs before)[q + t.toNat]? = some (some d) ∧ a.i + i ≤ d.i := outer_at cs _ hc ht hq (by unfold layer0; rw [List.length_map]; exact hl) ha
/-! ### the way back -/
def cellAt (L : List Layer) (k : Nat) (h : Int) : Option Cell := ((L[k]?).bind fun l => (l[h.toNat]?).join)
/-- growths_at: from the layer of k files at a total -/
def growthsM (L : List Layer) : Nat → Int → List (List Int)
  | 0, _ => []
  | k + 1, h => match cellAt L (k + 1) h with
    | none => []
    | some c => (match c.g with
      | some g => [g]
      | none => []) ++ growthsM L k (h - c.t.getD 0)
theorem layersM_get {n : Int} {cs : List Ch} {files k : Nat} (h : k ≤ files) : (layersM n cs files)[k]? = some (layerAt n cs k) := by
  unfold layersM
  rw [List.getElem?_map, List.getElem?_range (by omega)]
  rfl
theorem cellAt_layers {n : Int} {cs : List Ch} {files k : Nat} {h : Int} (hk : k ≤ files) : cellAt (layersM n cs files) k h = ((layerAt n cs k)[h.toNat]?).join := by
  unfold cellAt
  rw [layersM_get hk]
  rfl
/-! ### short choices -/
abbrev Sc := Int × Int × List Int
def shortsAt (b : Bk) (n : Int) (hold : Int) : List Sc :=
  if hold = 0 ∨ b.first ≤ hold then
    (List.range (if n - hold < stepB b hold - 1 then n - hold else stepB b hold - 1).toNat).map fun (k : Nat) => ((hold + (1 + (k : Int)), (1 + (k : Int)) - 1, if hold = 0 then [1] else [hold, 1]) : Sc)
  else []
def shortsTo (b : Bk) (n : Int) : Nat → List Sc
  | 0 => []
  | k + 1 => shortsTo b n k ++ shortsAt b n k
def shortsM (b : Bk) (n : Int) : List Sc := shortsTo b n n.toNat
structure Short (b : Bk) (n : Int) (t i : Int) (g : List Int) : Prop where
  how : ∃ h f : Int, t = h + f ∧ i = f - 1 ∧ 1 ≤ f ∧ f < stepB b h ∧ t ≤ n ∧ ((h = 0 ∧ g = [1]) ∨ (h ≠ 0 ∧ b.first ≤ h ∧ g = [h, 1]))
theorem shortsAt_sound {b : Bk} {n hold : Int} {c : Sc} (h : c ∈ shortsAt b n hold) : Short b n c.1 c.2.1 c.2.2 := by
  unfold shortsAt at h
  split at h
  · rename_i hh
    obtain ⟨k, hk, e⟩ := List.mem_map.mp h
    have hk' := List.mem_range.mp hk
    subst e
    refine ⟨hold, 1 + (k : Int), rfl, rfl, by omega, ?_, ?_, ?_⟩
    · split at hk' <;> omega
    · show hold + (1 + (k : Int)) ≤ n
      split at hk' <;> omega
    · by_cases z : hold = 0
      · exact .inl ⟨z, if_pos z⟩
      · refine .inr ⟨z, ?_, if_neg z⟩
        rcases hh with q | q
        · exact absurd q z
        · exact q
  · cases h
theorem shorts_sound {b : Bk} {n : Int} : ∀ (k : Nat) (c : Sc), c ∈ shortsTo b n k → Short b n c.1 c.2.1 c.2.2
  | 0, c, h => by cases h
  | k + 1, c, h => by
    rcases List.mem_append.mp (show c ∈ shortsTo b n k ++ shortsAt b n k from h) with q | q
    · exact shorts_sound k c q
    · exact shortsAt_sound q
theorem shortsTo_mono {b : Bk} {n : Int} {c : Sc} : ∀ {j k : Nat}, j ≤ k → c ∈ shortsTo b n j → c ∈ shortsTo b n k
  | j, 0, h, q => by
    have : j = 0 := by omega
    subst this
    exact q
  | j, k + 1, h, q => by
    by_cases e : j = k + 1
    · subst e; exact q
    · exact List.mem_append_left _ (shortsTo_mono (j := j) (k := k) (by omega) q)
theorem shorts_complete {b : Bk} {n h f : Int} (h0 : 0 ≤ h) (hh : h = 0 ∨ b.first ≤ h) (f1 : 1 ≤ f) (fs : f < stepB b h) (hn : h + f ≤ n) : ∃ g, (h + f, f - 1, g) ∈ shortsM b n := by
  obtain ⟨k, rfl⟩ : ∃ k : Nat, h = k := ⟨h.toNat, by omega⟩
  refine ⟨if (k : Int) = 0 then [1] else [(k : Int), 1], ?_⟩
  have key : ((k : Int) + f, f - 1, if (k : Int) = 0 then [1] else [(k : Int), 1]) ∈ shortsTo b n (k + 1) := by
    refine List.mem_append_right _ ?_
    unfold shortsAt
    rw [if_pos hh]
    refine List.mem_map.mpr ⟨(f - 1).toNat, List.mem_range.mpr ?_, ?_⟩
    · split <;> omega
    · have e : 1 + ((f - 1).toNat : Int) = f := by omega
      rw [e]
  exact shortsTo_mono (by omega) key
/-! ### the fullest -/
structure Best where
  i : Int
  h : Int
  rows : List (List Int)
def best0 : Best := ⟨0, 0, []⟩
def bestStepA (L : List Layer) (files : Nat) (best : Best) (held : Nat) (here : Option Cell) : Best := match here with
  | some c => if best.i < c.i then ⟨c.i, held, growthsM L files held⟩ else best
  | none => best
def bestTo (L : List Layer) (files : Nat) (top : Layer) : Nat → Best
  | 0 => best0
  | k + 1 => bestStepA L files (bestTo L files top k) k ((top[k]?).join)
def bestStepB (L : List Layer) (n : Int) (files : Nat) (best : Best) (c : Sc) : Best := match cellAt L (files - 1) (n - c.1) with
  | some a => if best.i < a.i + c.2.1 then ⟨a.i + c.2.1, n, growthsM L (files - 1) (n - c.1) ++ [c.2.2]⟩ else best
  | none => best
def fullA (b : Bk) (n : Int) (files : Nat) : Best := bestTo (layersM n (wholeM b n) files) files (layerAt n (wholeM b n) files) (n + 1).toNat
def fullestM (b : Bk) (n : Int) (files : Nat) : Best :=
  if files = 0 then fullA b n files else (shortsM b n).foldl (bestStepB (layersM n (wholeM b n) files) n files) (fullA b n files)
end Gf
/-! ## GfB -/
/-! Plain mathematics 2: what the fullest is worth: rows that reach it, and that nothing is above it. -/
namespace Gf
/-! ### rows that fit -/
inductive Rows (b : Bk) (n : Int) : List (List Int) → Int → Int → Prop where
  | nil : Rows b n [] 0 0
  | cons {t i u v : Int} {g : List Int} {rows : List (List Int)} (h : Whole b n t i g) (r : Rows b n rows u v) : Rows b n (g :: rows) (u + t) (v + i)
theorem Whole.pos {b : Bk} (hb : b.Ok) {n t i : Int} {g : List Int} (h : Whole b n t i g) : 1 ≤ t ∧ 0 ≤ i := by
  have := hb.f1
  rcases h.how with ⟨a, c, _⟩ | ⟨x, a, c, d, _⟩
  · omega
  · have := step_pos hb x
    omega
theorem wholeM_ok {b : Bk} (hb : b.Ok) {n : Int} : ∀ c ∈ wholeM b n, 0 ≤ c.1 ∧ c.1 ≤ n := fun c h => by
  have w := wcTo_sound b n _ c h
  have := w.pos hb
  have := w.le
  omega
theorem layer_zero {n : Int} {p : Nat} {c : Cell} (hn : 0 ≤ n) (h : (first0 n)[p]? = some (some c)) : p = 0 ∧ c = ⟨0, none, none⟩ := by
  unfold first0 at h
  by_cases e : 0 = p
  · subst e
    rw [List.getElem?_set_self (by rw [List.length_replicate]; omega)] at h
    have e2 : some (some (⟨0, none, none⟩ : Cell)) = some (some c) := h
    cases e2
    exact ⟨rfl, rfl⟩
  · rw [List.getElem?_set_ne e] at h
    rw [List.getElem?_replicate] at h
    split at h
    · have e2 : some (none : Option Cell) = some (some c) := h
      cases e2
    · cases h
theorem first0_at {n : Int} (hn : 0 ≤ n) : (first0 n)[0]? = some (some ⟨0, none, none⟩) := by
  unfold first0
  rw [List.getElem?_set_self (by rw [List.length_replicate]; omega)]
theorem join_some {l : Layer} {p : Nat} {c : Cell} (h : (l[p]?).join = some c) : l[p]? = some (some c) := by
  cases q : l[p]? with
  | none => rw [q] at h; cases h
  | some o =>
    rw [q] at h
    have : o = some c := h
    rw [this]
theorem growths_rows {b : Bk} (hb : b.Ok) {n : Int} (hn : 0 ≤ n) {files : Nat} : ∀ (k : Nat) (h : Int) (c : Cell), k ≤ files → 0 ≤ h → cellAt (layersM n (wholeM b n) files) k h = some c →
    Rows b n (growthsM (layersM n (wholeM b n) files) k h) h c.i ∧ (growthsM (layersM n (wholeM b n) files) k h).length ≤ k
  | 0, h, c, hk, h0, hc => by
    rw [cellAt_layers hk] at hc
    obtain ⟨e1, e2⟩ := layer_zero hn (join_some hc)
    have : h = 0 := by omega
    subst this e2
    exact ⟨.nil, Nat.le_refl _⟩
  | k + 1, h, c, hk, h0, hc => by
    have hc' := hc
    rw [cellAt_layers hk] at hc'
    have fr := next_from (wholeM_ok hb) _ _ (join_some hc')
    unfold growthsM
    rw [hc]
    cases fr with
    | kept a ha =>
      have ca : cellAt (layersM n (wholeM b n) files) k h = some a := by
        rw [cellAt_layers (by omega), ha]; rfl
      obtain ⟨r, l⟩ := growths_rows hb hn k h a (by omega) h0 ca
      show Rows b n ([] ++ growthsM _ k (h - 0)) h a.i ∧ ([] ++ growthsM _ k (h - 0)).length ≤ k + 1
      rw [Int.sub_zero, List.nil_append]
      exact ⟨r, by omega⟩
    | put a t i g q hm hq ht hp ha =>
      have ca : cellAt (layersM n (wholeM b n) files) k (q : Int) = some a := by
        rw [cellAt_layers (by omega)]
        show ((layerAt n (wholeM b n) k)[((q : Int)).toNat]?).join = some a
        rw [Int.toNat_natCast, ha]; rfl
      obtain ⟨r, l⟩ := growths_rows hb hn k q a (by omega) (by omega) ca
      have w := wcTo_sound b n _ _ hm
      have eh : h = (q : Int) + t := by omega
      have e2 : h - t = (q : Int) := by omega
      show Rows b n ([g] ++ growthsM _ k (h - t)) h (a.i + i) ∧ ([g] ++ growthsM _ k (h - t)).length ≤ k + 1
      rw [e2]
      refine ⟨?_, ?_⟩
      · have := Rows.cons w r
        rw [← eh] at this
        exact this
      · show (growthsM _ k (q : Int)).length + 1 ≤ k + 1
        omega
/-- what the best's rows are -/
inductive Reach (b : Bk) (n : Int) (files : Nat) (best : Best) : Prop where
  | whole (u : Int) (hu : u ≤ n) (r : Rows b n best.rows u best.i) (hl : best.rows.length ≤ files)
  | short (rows : List (List Int)) (g : List Int) (t i v : Int) (e : best.rows = rows ++ [g]) (r : Rows b n rows (n - t) v) (s : Short b n t i g) (ei : best.i = v + i) (hl : rows.length + 1 ≤ files)
theorem bestTo_reach {b : Bk} (hb : b.Ok) {n : Int} (hn : 0 ≤ n) {files : Nat} : ∀ k : Nat, k ≤ (n + 1).toNat → Reach b n files (bestTo (layersM n (wholeM b n) files) files (layerAt n (wholeM b n) files) k)
  | 0, _ => .whole 0 hn .nil (Nat.zero_le _)
  | k + 1, hk => by
    have ih := bestTo_reach hb hn (files := files) k (by omega)
    show Reach b n files (bestStepA _ _ _ _ _)
    unfold bestStepA
    split
    · rename_i c hc
      split
      · have ca : cellAt (layersM n (wholeM b n) files) files (k : Int) = some c := by
          rw [cellAt_layers (Nat.le_refl _)]
          show ((layerAt n (wholeM b n) files)[((k : Int)).toNat]?).join = some c
          rw [Int.toNat_natCast]; exact hc
        obtain ⟨r, l⟩ := growths_rows hb hn files k c (Nat.le_refl _) (by omega) ca
        exact .whole k (by omega) r l
      · exact ih
    · exact ih
theorem fold_reach {b : Bk} (hb : b.Ok) {n : Int} (hn : 0 ≤ n) {files : Nat} (hf : files ≠ 0) : ∀ (l : List Sc) (best : Best), (∀ c ∈ l, Short b n c.1 c.2.1 c.2.2) → Reach b n files best → Reach b n files (l.foldl (bestStepB (layersM n (wholeM b n) files) n files) best)
  | [], _, _, h => h
  | c :: l, best, hl, h => by
    rw [List.foldl_cons]
    refine fold_reach hb hn hf l _ (fun d hd => hl d (List.mem_cons_of_mem _ hd)) ?_
    have s := hl c List.mem_cons_self
    unfold bestStepB
    split
    · rename_i a ha
      split
      · have ht : c.1 ≤ n := by
          obtain ⟨_, _, _, _, _, _, h5, _⟩ := s.how
          exact h5
        obtain ⟨r, lr⟩ := growths_rows hb hn (files - 1) (n - c.1) a (by omega) (by omega) ha
        exact .short _ c.2.2 c.1 c.2.1 a.i rfl r s rfl (by omega)
      · exact h
    · exact h
theorem fullest_reach {b : Bk} (hb : b.Ok) {n : Int} (hn : 0 ≤ n) (files : Nat) : Reach b n files (fullestM b n files) := by
  unfold fullestM
  have h0 : Reach b n files (fullA b n files) := bestTo_reach hb hn _ (Nat.le_refl _)
  split
  · exact h0
  · rename_i hf
    exact fold_reach hb hn hf _ _ (fun c hc => shorts_sound _ c hc) h0
/-! ### nothing is above it -/
inductive Sel (b : Bk) (n : Int) : Nat → Int → Int → Prop where
  | nil : Sel b n 0 0 0
  | zero {k : Nat} {p v : Int} (s : Sel b n k p v) : Sel b n (k + 1) p v
  | whole {k : Nat} {p v h : Int} (s : Sel b n k p v) (hh : h = 0 ∨ b.first ≤ h) (hp : p + (h + stepB b h) ≤ n) : Sel b n (k + 1) (p + (h + stepB b h)) (v + (stepB b h - 1))
theorem Sel.nonneg {b : Bk} (hb : b.Ok) {n : Int} {k : Nat} {p v : Int} (s : Sel b n k p v) : 0 ≤ p := by
  induction s with
  | nil => exact Int.le_refl _
  | zero _ ih => exact ih
  | whole s hh hp ih =>
    rename_i h
    have := step_pos hb h
    have := hb.f1
    rcases hh with z | z <;> omega
theorem whole_at {b : Bk} (hb : b.Ok) {n h : Int} (hh : h = 0 ∨ b.first ≤ h) (hp : h + stepB b h ≤ n) : ∃ y, (h + stepB b h, y) ∈ wholeM b n ∧ stepB b h - 1 ≤ y.1 := by
  rcases hh with z | z
  · subst z
    rw [step_zero hb] at hp ⊢
    obtain ⟨y, hy, ly⟩ := whole_first (b := b) (n := n) (by omega)
    rw [Int.zero_add]
    exact ⟨y, getK_mem hy, ly⟩
  · obtain ⟨y, hy, ly⟩ := whole_more hb z hp
    exact ⟨y, getK_mem hy, ly⟩
theorem Sel.le_layer {b : Bk} (hb : b.Ok) {n : Int} (hn : 0 ≤ n) {k : Nat} {p v : Int} (s : Sel b n k p v) : ∃ c, (layerAt n (wholeM b n) k)[p.toNat]? = some (some c) ∧ v ≤ c.i := by
  induction s with
  | nil => exact ⟨_, first0_at hn, Int.le_refl _⟩
  | zero s ih =>
    obtain ⟨c, hc, lc⟩ := ih
    obtain ⟨d, hd, ld⟩ := next_keep (n := n) (cs := wholeM b n) hc
    exact ⟨d, hd, by omega⟩
  | whole s hh hp ih =>
    rename_i k p v h
    obtain ⟨c, hc, lc⟩ := ih
    have hs := step_pos hb h
    have hf := hb.f1
    have h0 : 0 ≤ h + stepB b h := by rcases hh with z | z <;> omega
    have p0 := s.nonneg hb
    obtain ⟨y, hy, ly⟩ := whole_at hb hh (by omega : h + stepB b h ≤ n)
    obtain ⟨yi, yg⟩ := y
    obtain ⟨d, hd, ld⟩ := next_put (q := p.toNat) hy h0 (by omega) (layerAt_length _ _ _) hc
    refine ⟨d, ?_, ?_⟩
    · have e : (p + (h + stepB b h)).toNat = p.toNat + (h + stepB b h).toNat := by omega
      rw [e]
      exact hd
    · have : stepB b h - 1 ≤ yi := ly
      omega
theorem bestTo_mono {L : List Layer} {files : Nat} {top : Layer} : ∀ {j k : Nat}, j ≤ k → (bestTo L files top j).i ≤ (bestTo L files top k).i
  | j, 0, h => by
    have : j = 0 := by omega
    subst this; exact Int.le_refl _
  | j, k + 1, h => by
    by_cases e : j = k + 1
    · subst e; exact Int.le_refl _
    · refine Int.le_trans (bestTo_mono (L := L) (files := files) (top := top) (j := j) (k := k) (by omega)) ?_
      show _ ≤ (bestStepA _ _ _ _ _).i
      unfold bestStepA
      split
      · split
        · rename_i c _ z
          show _ ≤ c.i
          omega
        · exact Int.le_refl _
      · exact Int.le_refl _
theorem bestTo_at {L : List Layer} {files : Nat} {top : Layer} {p k : Nat} {c : Cell} (hp : p < k) (h : top[p]? = some (some c)) : c.i ≤ (bestTo L files top k).i := by
  refine Int.le_trans ?_ (bestTo_mono (j := p + 1) (by omega))
  show _ ≤ (bestStepA _ _ _ _ _).i
  rw [h]
  unfold bestStepA
  show _ ≤ Best.i (if _ then _ else _)
  split
  · exact Int.le_refl _
  · rename_i z
    exact Int.not_lt.mp z
theorem bestStepB_ge {L : List Layer} {n : Int} {files : Nat} {best : Best} {c : Sc} : best.i ≤ (bestStepB L n files best c).i := by
  unfold bestStepB
  split
  · split
    · rename_i z
      show _ ≤ _ + _
      omega
    · exact Int.le_refl _
  · exact Int.le_refl _
theorem fold_ge {L : List Layer} {n : Int} {files : Nat} : ∀ (l : List Sc) (best : Best), best.i ≤ (l.foldl (bestStepB L n files) best).i
  | [], _ => Int.le_refl _
  | c :: l, best => by
    rw [List.foldl_cons]
    exact Int.le_trans bestStepB_ge (fold_ge l _)
theorem fold_at {L : List Layer} {n : Int} {files : Nat} {c : Sc} {a : Cell} : ∀ (l : List Sc) (best : Best), c ∈ l → cellAt L (files - 1) (n - c.1) = some a → a.i + c.2.1 ≤ (l.foldl (bestStepB L n files) best).i
  | [], _, h, _ => by cases h
  | d :: l, best, h, ha => by
    rw [List.foldl_cons]
    rcases List.mem_cons.mp h with e | e
    · subst e
      refine Int.le_trans ?_ (fold_ge l _)
      unfold bestStepB
      rw [ha]
      show _ ≤ Best.i (if _ then _ else _)
      split
      · exact Int.le_refl _
      · rename_i z
        exact Int.not_lt.mp z
    · exact fold_at l _ e ha
theorem fullA_le {b : Bk} {n : Int} {files : Nat} : (fullA b n files).i ≤ (fullestM b n files).i := by
  unfold fullestM
  split
  · exact Int.le_refl _
  · exact fold_ge _ _
/-- no whole choices are above -/
theorem sel_le {b : Bk} (hb : b.Ok) {n : Int} (hn : 0 ≤ n) {files : Nat} {p v : Int} (s : Sel b n files p v) (hp : p ≤ n) : v ≤ (fullestM b n files).i := by
  obtain ⟨c, hc, lc⟩ := s.le_layer hb hn
  have h := bestTo_at (L := layersM n (wholeM b n) files) (files := files) (k := (n + 1).toNat) (by have := s.nonneg hb; omega) hc
  exact Int.le_trans lc (Int.le_trans h fullA_le)
theorem full_nonneg {b : Bk} {n : Int} {files : Nat} : 0 ≤ (fullestM b n files).i := Int.le_trans (bestTo_mono (j := 0) (Nat.zero_le _)) fullA_le
/-- nor with a short one -/
theorem sel_short_le {b : Bk} (hb : b.Ok) {n : Int} (hn : 0 ≤ n) {k : Nat} {p v h f : Int} (s : Sel b n k p v) (hh : h = 0 ∨ b.first ≤ h) (f1 : 1 ≤ f) (fs : f < stepB b h) (hp : p + (h + f) ≤ n) : v + (f - 1) ≤ (fullestM b n (k + 1)).i := by
  have p0 := s.nonneg hb
  have hf := hb.f1
  have h0 : 0 ≤ h := by rcases hh with z | z <;> omega
  -- the gap is given to the short one
  by_cases z : n - p - h < stepB b h
  · obtain ⟨g, hg⟩ := shorts_complete (b := b) (n := n) (h := h) (f := n - p - h) h0 hh (by omega) z (by omega)
    obtain ⟨c, hc, lc⟩ := s.le_layer hb hn
    have ca : cellAt (layersM n (wholeM b n) (k + 1)) ((k + 1) - 1) (n - (h + (n - p - h))) = some c := by
      have e : n - (h + (n - p - h)) = p := by omega
      rw [e, Nat.add_sub_cancel, cellAt_layers (by omega), hc]
      rfl
    have := fold_at (L := layersM n (wholeM b n) (k + 1)) (n := n) (files := k + 1) _ (fullA b n (k + 1)) hg ca
    unfold fullestM
    rw [if_neg (by omega)]
    have e2 : c.i + ((n - p - h) - 1) ≤ (List.foldl (bestStepB (layersM n (wholeM b n) (k + 1)) n (k + 1)) (fullA b n (k + 1)) (shortsM b n)).i := this
    omega
  · have s2 := Sel.whole s hh (by omega : p + (h + stepB b h) ≤ n)
    have := sel_le hb hn s2 (by omega)
    omega
/-! ### a disk by its files' sizes and holds -/
abbrev FS := Int × Int
def holds (st : List FS) : Int := (st.map (·.2)).sum
def idles (st : List FS) : Int := (st.map fun p => p.2 - p.1).sum
def given (b : Bk) (hold need free : Int) : Int := if (if stepB b hold > need then stepB b hold else need) ≤ free then (if stepB b hold > need then stepB b hold else need) else free
def growA (b : Bk) (n : Int) (st : List FS) (j : Nat) (many : Int) : Option (List FS) := match st[j]? with
  | none => none
  | some (s, h) => if s + many - h ≤ 0 then some (st.set j (s + many, h))
    else if n - holds st < s + many - h then none
    else some (st.set j (s + many, h + given b h (s + many - h) (n - holds st)))
theorem holds_set {st : List FS} {j : Nat} {p q : FS} (h : st[j]? = some p) : holds (st.set j q) = holds st - p.2 + q.2 := by
  unfold holds
  induction st generalizing j with
  | nil => cases h
  | cons x r ih =>
    cases j with
    | zero =>
      have : x = p := by simpa using h
      subst this
      simp only [List.set_cons_zero, List.map_cons, List.sum_cons]
      omega
    | succ j =>
      have := ih (j := j) (by simpa using h)
      simp only [List.set_cons_succ, List.map_cons, List.sum_cons]
      omega
theorem idles_set {st : List FS} {j : Nat} {p q : FS} (h : st[j]? = some p) : idles (st.set j q) = idles st - (p.2 - p.1) + (q.2 - q.1) := by
  unfold idles
  induction st generalizing j with
  | nil => cases h
  | cons x r ih =>
    cases j with
    | zero =>
      have : x = p := by simpa using h
      subst this
      simp only [List.set_cons_zero, List.map_cons, List.sum_cons]
      omega
    | succ j =>
      have := ih (j := j) (by simpa using h)
      simp only [List.set_cons_succ, List.map_cons, List.sum_cons]
      omega
/-- a file as growths leave it: nothing idle, or a whole giving last -/
structure FW (b : Bk) (p : FS) : Prop where
  s0 : 0 ≤ p.1
  sh : p.1 ≤ p.2
  how : p.2 - p.1 ≤ 0 ∨ ∃ h, (h = 0 ∨ b.first ≤ h) ∧ p.2 = h + stepB b h ∧ p.2 - p.1 ≤ stepB b h - 1
def Full (b : Bk) (p : FS) : Prop := p.2 = 0 ∨ b.first ≤ p.2
/-- the file whose last giving was shortened -/
structure FShort (b : Bk) (p : FS) : Prop where
  s0 : 0 ≤ p.1
  sh : p.1 ≤ p.2
  how : ∃ h f, (h = 0 ∨ b.first ≤ h) ∧ 1 ≤ f ∧ f < stepB b h ∧ p.2 = h + f ∧ p.2 - p.1 ≤ f - 1
/-- a state that growths lead to -/
inductive Grown (b : Bk) (n : Int) (st : List FS) : Prop where
  | open_ (hn : holds st ≤ n) (h : ∀ p ∈ st, FW b p) (hf : holds st < n → ∀ p ∈ st, Full b p)
  | short (j : Nat) (p : FS) (hj : st[j]? = some p) (hs : FShort b p) (hn : holds st = n) (h : ∀ (k : Nat) (q : FS), k ≠ j → st[k]? = some q → FW b q)
theorem FW.zero {b : Bk} : FW b (0, 0) := ⟨Int.le_refl _, Int.le_refl _, .inl (by decide)⟩
theorem grown_new {b : Bk} {n : Int} (hn : 0 ≤ n) : Grown b n [] := .open_ (by unfold holds; simpa using hn) (fun _ h => by cases h) fun _ _ h => by cases h
theorem holds_append {a c : List FS} : holds (a ++ c) = holds a + holds c := by
  unfold holds
  rw [List.map_append, List.sum_append]
theorem idles_append {a c : List FS} : idles (a ++ c) = idles a + idles c := by
  unfold idles
  rw [List.map_append, List.sum_append]
theorem grown_make {b : Bk} {n : Int} {st : List FS} (h : Grown b n st) : Grown b n (st ++ [(0, 0)]) := by
  have e : holds (st ++ [(0, 0)]) = holds st := by
    rw [holds_append]
    simp [holds]
  cases h with
  | open_ hn h hf =>
    refine .open_ (by rw [e]; exact hn) (fun p hp => ?_) (fun z p hp => ?_)
    · rcases List.mem_append.mp hp with q | q
      · exact h p q
      · rw [List.mem_singleton.mp q]; exact .zero
    · rw [e] at z
      rcases List.mem_append.mp hp with q | q
      · exact hf z p q
      · rw [List.mem_singleton.mp q]; exact .inl rfl
  | short j p hj hs hn h =>
    have hl := (List.getElem?_eq_some_iff.mp hj).1
    refine .short j p (by rw [List.getElem?_append_left hl]; exact hj) hs (by rw [e]; exact hn) fun k q hk hq => ?_
    by_cases z : k < st.length
    · rw [List.getElem?_append_left z] at hq
      exact h k q hk hq
    · rw [List.getElem?_append_right (by omega)] at hq
      have hm := List.mem_of_getElem? hq
      rw [List.mem_singleton.mp hm]; exact .zero
theorem mem_set {st : List FS} {j : Nat} {p q : FS} (h : q ∈ st.set j p) : q = p ∨ q ∈ st := by
  have := List.mem_or_eq_of_mem_set h
  rcases this with z | z
  · exact .inr z
  · exact .inl z
theorem grown_step {b : Bk} (hb : b.Ok) {n : Int} {st st' : List FS} {j : Nat} {many : Int} (hm : 1 ≤ many) (h : Grown b n st) (e : growA b n st j many = some st') : Grown b n st' := by
  unfold growA at e
  cases hj : st[j]? with
  | none => rw [hj] at e; cases e
  | some p =>
    obtain ⟨s, hd⟩ := p
    rw [hj] at e
    have e1 : (if s + many - hd ≤ 0 then some (st.set j (s + many, hd)) else if n - holds st < s + many - hd then none else some (st.set j (s + many, hd + given b hd (s + many - hd) (n - holds st)))) = some st' := e
    have hl := (List.getElem?_eq_some_iff.mp hj).1
    by_cases c1 : s + many - hd ≤ 0
    · rw [if_pos c1] at e1
      have e2 := Option.some.inj e1
      subst e2
      have eh : holds (st.set j (s + many, hd)) = holds st := by
        rw [holds_set hj]
        show holds st - hd + hd = _
        omega
      cases h with
      | open_ hn hw hf =>
        refine .open_ (by rw [eh]; exact hn) (fun q hq => ?_) (fun z q hq => ?_)
        · rcases mem_set hq with y | y
          · rw [y]
            have w := hw (s, hd) (List.mem_of_getElem? hj)
            have w1 : 0 ≤ s := w.s0
            refine ⟨by show 0 ≤ s + many; omega, by show s + many ≤ hd; omega, ?_⟩
            rcases w.how with x | ⟨h', a1, a2, a3⟩
            · exact .inl (by have x' : hd - s ≤ 0 := x; show hd - (s + many) ≤ 0; omega)
            · refine .inr ⟨h', a1, a2, ?_⟩
              have a3' : hd - s ≤ stepB b h' - 1 := a3
              show hd - (s + many) ≤ stepB b h' - 1
              omega
          · exact hw q y
        · rw [eh] at z
          rcases mem_set hq with y | y
          · rw [y]
            exact hf z (s, hd) (List.mem_of_getElem? hj)
          · exact hf z q y
      | short k p hk hs hn hw =>
        by_cases z : k = j
        · subst z
          rw [hj] at hk
          have ep : (s, hd) = p := Option.some.inj hk
          subst ep
          refine .short k (s + many, hd) (List.getElem?_set_self hl) ?_ (by rw [eh]; exact hn) fun i q hi hq => ?_
          · have w1 : 0 ≤ s := hs.s0
            obtain ⟨h', f, a1, a2, a3, a4, a5⟩ := hs.how
            refine ⟨by show 0 ≤ s + many; omega, by show s + many ≤ hd; omega, h', f, a1, a2, a3, a4, ?_⟩
            have a5' : hd - s ≤ f - 1 := a5
            show hd - (s + many) ≤ f - 1
            omega
          · rw [List.getElem?_set_ne (Ne.symm hi)] at hq
            exact hw i q hi hq
        · refine .short k p (by rw [List.getElem?_set_ne (fun y => z y.symm)]; exact hk) hs (by rw [eh]; exact hn) fun i q hi hq => ?_
          by_cases y : j = i
          · subst y
            rw [List.getElem?_set_self hl] at hq
            have eq : (s + many, hd) = q := Option.some.inj hq
            subst eq
            have w := hw j (s, hd) hi hj
            have w1 : 0 ≤ s := w.s0
            refine ⟨by show 0 ≤ s + many; omega, by show s + many ≤ hd; omega, ?_⟩
            rcases w.how with x | ⟨h', a1, a2, a3⟩
            · exact .inl (by have x' : hd - s ≤ 0 := x; show hd - (s + many) ≤ 0; omega)
            · refine .inr ⟨h', a1, a2, ?_⟩
              have a3' : hd - s ≤ stepB b h' - 1 := a3
              show hd - (s + many) ≤ stepB b h' - 1
              omega
          · rw [List.getElem?_set_ne y] at hq
            exact hw i q hi hq
    · rw [if_neg c1] at e1
      by_cases c2 : n - holds st < s + many - hd
      · rw [if_pos c2] at e1; cases e1
      · rw [if_neg c2] at e1
        have e2 := Option.some.inj e1
        subst e2
        -- room is left: all files are whole
        cases h with
        | short k p hk hs hn hw => omega
        | open_ hn hw hf =>
          have lt : holds st < n := by omega
          have w := hw (s, hd) (List.mem_of_getElem? hj)
          have w1 : 0 ≤ s := w.s0
          have w2 : s ≤ hd := w.sh
          have fu : hd = 0 ∨ b.first ≤ hd := hf lt (s, hd) (List.mem_of_getElem? hj)
          have sp := step_pos hb hd
          have sg := step_ge hb hd
          have f1 := hb.f1
          have eh : holds (st.set j (s + many, hd + given b hd (s + many - hd) (n - holds st))) = holds st + given b hd (s + many - hd) (n - holds st) := by
            rw [holds_set hj]
            show holds st - hd + (hd + _) = _
            omega
          by_cases c3 : (if stepB b hd > s + many - hd then stepB b hd else s + many - hd) ≤ n - holds st
          · have eg : given b hd (s + many - hd) (n - holds st) = (if stepB b hd > s + many - hd then stepB b hd else s + many - hd) := by
              unfold given
              rw [if_pos c3]
            have ge : s + many - hd ≤ given b hd (s + many - hd) (n - holds st) ∧ stepB b hd ≤ given b hd (s + many - hd) (n - holds st) := by
              rw [eg]; split <;> omega
            refine .open_ (by rw [eh, eg]; omega) (fun q hq => ?_) (fun _ q hq => ?_)
            · rcases mem_set hq with y | y
              · rw [y]
                refine ⟨by show 0 ≤ s + many; omega, by show s + many ≤ hd + _; omega, ?_⟩
                by_cases c4 : stepB b hd > s + many - hd
                · refine .inr ⟨hd, fu, ?_, ?_⟩
                  · show hd + given b hd _ _ = _
                    rw [eg, if_pos c4]
                  · show hd + given b hd _ _ - (s + many) ≤ _
                    rw [eg, if_pos c4]
                    omega
                · refine .inl ?_
                  show hd + given b hd _ _ - (s + many) ≤ 0
                  rw [eg, if_neg c4]
                  omega
              · exact hw q y
            · rcases mem_set hq with y | y
              · rw [y]
                refine .inr ?_
                show b.first ≤ hd + given b hd _ _
                omega
              · exact hf lt q y
          · have eg : given b hd (s + many - hd) (n - holds st) = n - holds st := by
              unfold given
              rw [if_neg c3]
            have c4 : stepB b hd > s + many - hd := by
              split at c3 <;> omega
            have c5 : n - holds st < stepB b hd := by
              rw [if_pos c4] at c3; omega
            refine .short j (s + many, hd + given b hd (s + many - hd) (n - holds st)) (List.getElem?_set_self hl) ?_ (by rw [eh, eg]; omega) fun i q hi hq => ?_
            · refine ⟨by show 0 ≤ s + many; omega, by show s + many ≤ hd + given b hd _ _; rw [eg]; omega, hd, n - holds st, fu, by omega, c5, by rw [eg], ?_⟩
              show hd + given b hd _ _ - (s + many) ≤ _
              rw [eg]
              omega
            · rw [List.getElem?_set_ne (Ne.symm hi)] at hq
              exact hw q (List.mem_of_getElem? hq)
/-! ### the bound -/
theorem sel_of {b : Bk} (hb : b.Ok) {n : Int} : ∀ (st : List FS), (∀ p ∈ st, FW b p) → ∀ m, holds st ≤ m → m ≤ n → ∃ p v, Sel b n st.length p v ∧ p ≤ holds st ∧ idles st ≤ v
  | [], _, m, _, _ => ⟨0, 0, .nil, by unfold holds; simp, by unfold idles; simp⟩
  | x :: r, hw, m, hm, hn => by
    have e1 : holds (x :: r) = x.2 + holds r := by unfold holds; rw [List.map_cons, List.sum_cons]
    have e2 : idles (x :: r) = (x.2 - x.1) + idles r := by unfold idles; rw [List.map_cons, List.sum_cons]
    have w := hw x List.mem_cons_self
    have w0 := w.s0
    have w1 := w.sh
    obtain ⟨p, v, s, hp, hv⟩ := sel_of (n := n) hb r (fun q hq => hw q (List.mem_cons_of_mem _ hq)) (m - x.2) (by omega) (by omega)
    rcases w.how with z | ⟨h, a1, a2, a3⟩
    · exact ⟨p, v, .zero s, by omega, by omega⟩
    · refine ⟨p + (h + stepB b h), v + (stepB b h - 1), .whole (h := h) s a1 (by omega), by omega, by omega⟩
theorem split_at {st : List FS} {j : Nat} {p : FS} (h : st[j]? = some p) : st = st.take j ++ p :: st.drop (j + 1) := by
  obtain ⟨hl, e⟩ := List.getElem?_eq_some_iff.mp h
  rw [← e]
  rw [List.getElem_cons_drop, List.take_append_drop]
theorem idle_bound {b : Bk} (hb : b.Ok) {n : Int} (hn : 0 ≤ n) {st : List FS} (h : Grown b n st) : idles st ≤ (fullestM b n st.length).i := by
  cases h with
  | open_ h1 hw hf =>
    obtain ⟨p, v, s, hp, hv⟩ := sel_of hb st hw n h1 (Int.le_refl _)
    exact Int.le_trans hv (sel_le hb hn s (by omega))
  | short j p hj hs h1 hw =>
    have sp := split_at hj
    have hl := (List.getElem?_eq_some_iff.mp hj).1
    have other : ∀ q ∈ st.take j ++ st.drop (j + 1), FW b q := fun q hq => by
      rcases List.mem_append.mp hq with z | z
      · obtain ⟨i, hi, e⟩ := List.mem_iff_getElem.mp z
        have hi' : i < j := by rw [List.length_take] at hi; omega
        refine hw i q (by omega) ?_
        rw [List.getElem_take] at e
        rw [← e]
        exact List.getElem?_eq_getElem _
      · obtain ⟨i, hi, e⟩ := List.mem_iff_getElem.mp z
        refine hw (j + 1 + i) q (by omega) ?_
        rw [List.getElem_drop] at e
        rw [← e]
        exact List.getElem?_eq_getElem _
    have eh : holds st = holds (st.take j ++ st.drop (j + 1)) + p.2 := by
      conv => lhs; rw [sp]
      rw [holds_append, holds_append]
      have : holds (p :: st.drop (j + 1)) = p.2 + holds (st.drop (j + 1)) := by unfold holds; rw [List.map_cons, List.sum_cons]
      omega
    have ei : idles st = idles (st.take j ++ st.drop (j + 1)) + (p.2 - p.1) := by
      conv => lhs; rw [sp]
      rw [idles_append, idles_append]
      have : idles (p :: st.drop (j + 1)) = (p.2 - p.1) + idles (st.drop (j + 1)) := by unfold idles; rw [List.map_cons, List.sum_cons]
      omega
    have el : st.length = (st.take j ++ st.drop (j + 1)).length + 1 := by
      rw [List.length_append, List.length_take, List.length_drop]
      omega
    have s0 := hs.s0
    have s1 := hs.sh
    obtain ⟨h, f, a1, a2, a3, a4, a5⟩ := hs.how
    obtain ⟨q, v, s, hp, hv⟩ := sel_of (n := n) hb (st.take j ++ st.drop (j + 1)) other (n - p.2) (by omega) (by omega)
    rw [el]
    have := sel_short_le (h := h) (f := f) hb hn s a1 a2 a3 (by omega)
    omega
/-! ### the row is played -/
def playG (b : Bk) (n : Int) (st : List FS) (j : Nat) : List Int → Option (List FS)
  | [] => some st
  | m :: r => match growA b n st j m with
    | some st' => playG b n st' j r
    | none => none
def playR (b : Bk) (n : Int) (st : List FS) (j : Nat) : List (List Int) → Option (List FS)
  | [] => some st
  | g :: r => match playG b n st j g with
    | some st' => playR b n st' (j + 1) r
    | none => none
theorem grow_zero {b : Bk} (hb : b.Ok) {n : Int} {st : List FS} {j : Nat} {m : Int} (hj : st[j]? = some (0, 0)) (hm : 1 ≤ m) (hr : m ≤ n - holds st) :
    growA b n st j m = some (st.set j (m, given b 0 m (n - holds st))) := by
  unfold growA
  rw [hj]
  show (if 0 + m - 0 ≤ 0 then _ else if n - holds st < 0 + m - 0 then _ else _) = _
  rw [if_neg (by omega), if_neg (by omega)]
  have e : 0 + m - 0 = m := by omega
  rw [e, Int.zero_add, Int.zero_add]
theorem grow_more {b : Bk} {n : Int} {st : List FS} {j : Nat} {h : Int} (hj : st[j]? = some (h, h)) (hr : 1 ≤ n - holds st) :
    growA b n st j 1 = some (st.set j (h + 1, h + given b h 1 (n - holds st))) := by
  unfold growA
  rw [hj]
  show (if h + 1 - h ≤ 0 then _ else if n - holds st < h + 1 - h then _ else _) = _
  rw [if_neg (by omega), if_neg (by omega)]
  have e : h + 1 - h = 1 := by omega
  rw [e]
theorem given_eq {b : Bk} {h need free g : Int} (e : (if stepB b h > need then stepB b h else need) = g) : given b h need free = if g ≤ free then g else free := by
  unfold given
  rw [e]
/-- f: what is given last -/
theorem play_one {b : Bk} (hb : b.Ok) {n : Int} {st : List FS} {j : Nat} {f : Int} (hj : st[j]? = some (0, 0)) (hr : 1 ≤ n - holds st) (hf : f = if b.first ≤ n - holds st then b.first else n - holds st) :
    playG b n st j [1] = some (st.set j (1, f)) := by
  have f1 := hb.f1
  have e := grow_zero hb hj (Int.le_refl 1) hr
  have eg : given b 0 1 (n - holds st) = f := by
    rw [given_eq (g := b.first) (by rw [step_zero hb]; split <;> omega), hf]
  rw [eg] at e
  unfold playG
  rw [e]
  rfl
theorem play_two {b : Bk} (hb : b.Ok) {n : Int} {st : List FS} {j : Nat} {h f : Int} (hj : st[j]? = some (0, 0)) (hh : b.first ≤ h) (hr : h + 1 ≤ n - holds st) (hf : f = if stepB b h ≤ n - holds st - h then stepB b h else n - holds st - h) :
    playG b n st j [h, 1] = some (st.set j (h + 1, h + f)) := by
  have f1 := hb.f1
  have sp := step_pos hb h
  have hl := (List.getElem?_eq_some_iff.mp hj).1
  have e := grow_zero (n := n) (m := h) hb hj (by omega) (by omega)
  have eg : given b 0 h (n - holds st) = h := by
    rw [given_eq (g := h) (by rw [step_zero hb]; split <;> omega)]
    rw [if_pos (by omega)]
  rw [eg] at e
  have eh : holds (st.set j (h, h)) = holds st + h := by
    rw [holds_set hj]
    show holds st - 0 + h = _
    omega
  have e2 := grow_more (b := b) (n := n) (st := st.set j (h, h)) (j := j) (h := h) (List.getElem?_set_self hl) (by rw [eh]; omega)
  have eg2 : given b h 1 (n - holds (st.set j (h, h))) = f := by
    rw [given_eq (g := stepB b h) (by split <;> omega), hf, eh]
    have : n - (holds st + h) = n - holds st - h := by omega
    rw [this]
  rw [eg2, List.set_set] at e2
  unfold playG
  rw [e]
  show playG b n (st.set j (h, h)) j [1] = _
  unfold playG
  rw [e2]
  rfl
theorem play_whole {b : Bk} (hb : b.Ok) {n : Int} {st : List FS} {j : Nat} {t i : Int} {g : List Int} (hj : st[j]? = some (0, 0)) (w : Whole b n t i g) (hr : t ≤ n - holds st) : playG b n st j g = some (st.set j (t - i, t)) := by
  have f1 := hb.f1
  rcases w.how with ⟨a, c, d⟩ | ⟨h, a, c, d, e⟩
  · subst a c d
    rw [play_one hb hj (by omega) rfl, if_pos hr]
    have : b.first - (b.first - 1) = 1 := by omega
    rw [this]
  · have sp := step_pos hb h
    subst c d e
    rw [play_two (h := h) hb hj a (by omega) rfl, if_pos (by omega)]
    have : h + stepB b h - (stepB b h - 1) = h + 1 := by omega
    rw [this]
theorem play_short {b : Bk} (hb : b.Ok) {n : Int} {st : List FS} {j : Nat} {t i : Int} {g : List Int} (hj : st[j]? = some (0, 0)) (s : Short b n t i g) (hr : t = n - holds st) : playG b n st j g = some (st.set j (t - i, t)) := by
  have f1 := hb.f1
  obtain ⟨h, f, a1, a2, a3, a4, a5, a6⟩ := s.how
  rcases a6 with ⟨z, e⟩ | ⟨z, e1, e⟩
  · subst z e
    rw [step_zero hb] at a4
    rw [play_one (f := f) hb hj (by omega) (by rw [if_neg (by omega)]; omega)]
    have e1 : t - i = 1 := by omega
    have e2 : t = f := by omega
    rw [e1, e2]
  · subst e
    rw [play_two (f := f) hb hj e1 (by omega) (by rw [if_neg (by omega)]; omega)]
    have e1 : t - i = h + 1 := by omega
    have e2 : t = h + f := by omega
    rw [e1, e2]
theorem play_rows {b : Bk} (hb : b.Ok) {n : Int} {rows : List (List Int)} {u v : Int} (r : Rows b n rows u v) : ∀ (st : List FS) (j : Nat), (∀ k, j ≤ k → k < st.length → st[k]? = some (0, 0)) → j + rows.length ≤ st.length → u ≤ n - holds st →
    ∃ st', playR b n st j rows = some st' ∧ st'.length = st.length ∧ holds st' = holds st + u ∧ idles st' = idles st + v ∧ ∀ k, j + rows.length ≤ k → k < st.length → st'[k]? = some (0, 0) := by
  induction r with
  | nil =>
    intro st j hz hl hu
    exact ⟨st, rfl, rfl, by omega, by omega, fun k hk hk2 => hz k (by simpa using hk) hk2⟩
  | cons w r ih =>
    rename_i t i u v g rows
    intro st j hz hl hu
    rw [List.length_cons] at hl
    have hj := hz j (Nat.le_refl _) (by omega)
    have hp := w.pos hb
    have r0 : 0 ≤ u := by
      clear ih hu
      induction r with
      | nil => exact Int.le_refl _
      | cons w' _ ih' =>
        have := w'.pos hb
        have := ih' (by rw [List.length_cons] at hl; omega)
        omega
    have e1 := play_whole hb hj w (by omega)
    have eh : holds (st.set j (t - i, t)) = holds st + t := by
      rw [holds_set hj]; show holds st - 0 + t = _; omega
    have ei : idles (st.set j (t - i, t)) = idles st + i := by
      rw [idles_set hj]; show idles st - (0 - 0) + (t - (t - i)) = _; omega
    obtain ⟨st', a1, a2, a3, a4, a5⟩ := ih (st.set j (t - i, t)) (j + 1) (fun k hk hk2 => by
      rw [List.getElem?_set_ne (by omega)]
      exact hz k (by omega) (by rw [List.length_set] at hk2; exact hk2)) (by rw [List.length_set]; omega) (by rw [eh]; omega)
    refine ⟨st', ?_, by rw [a2, List.length_set], by rw [a3, eh]; omega, by rw [a4, ei]; omega, fun k hk hk2 => a5 k (by rw [List.length_cons] at hk; omega) (by rw [List.length_set]; exact hk2)⟩
    show (match playG b n st j g with | some st' => playR b n st' (j + 1) rows | none => none) = _
    rw [e1]
    exact a1
theorem playR_append {b : Bk} {n : Int} : ∀ (a c : List (List Int)) (st : List FS) (j : Nat), playR b n st j (a ++ c) = (playR b n st j a).bind fun st' => playR b n st' (j + a.length) c
  | [], c, st, j => rfl
  | g :: a, c, st, j => by
    show (match playG b n st j g with | some st' => playR b n st' (j + 1) (a ++ c) | none => none) = (match playG b n st j g with | some st' => playR b n st' (j + 1) a | none => none).bind _
    cases playG b n st j g with
    | none => rfl
    | some st' =>
      show playR b n st' (j + 1) (a ++ c) = _
      rw [playR_append a c st' (j + 1)]
      have : j + 1 + a.length = j + (g :: a).length := by rw [List.length_cons]; omega
      rw [this]
/-- THE ROW: on files without blocks it is played to the end, and leaves so many idle -/
theorem row_plays {b : Bk} (hb : b.Ok) {n : Int} (hn : 0 ≤ n) (files : Nat) :
    ∃ st', playR b n (List.replicate files (0, 0)) 0 (fullestM b n files).rows = some st' ∧ st'.length = files ∧ idles st' = (fullestM b n files).i := by
  have hz : ∀ k, 0 ≤ k → k < (List.replicate files ((0, 0) : FS)).length → (List.replicate files ((0, 0) : FS))[k]? = some (0, 0) := fun k _ hk => by
    rw [List.length_replicate] at hk
    rw [List.getElem?_replicate, if_pos hk]
  have h0 : holds (List.replicate files (0, 0)) = 0 := by
    unfold holds
    rw [List.map_replicate]
    induction files with
    | zero => rfl
    | succ k _ => simp
  have i0 : idles (List.replicate files (0, 0)) = 0 := by
    unfold idles
    rw [List.map_replicate]
    induction files with
    | zero => rfl
    | succ k _ => simp
  cases fullest_reach hb hn files with
  | whole u hu r hl =>
    obtain ⟨st', a1, a2, _, a4, _⟩ := play_rows hb r (List.replicate files (0, 0)) 0 hz (by rw [List.length_replicate]; omega) (by rw [h0]; omega)
    exact ⟨st', a1, by rw [a2, List.length_replicate], by rw [a4, i0]; omega⟩
  | short rows g t i v e r s ei hl =>
    obtain ⟨st', a1, a2, a3, a4, a5⟩ := play_rows hb r (List.replicate files (0, 0)) 0 hz (by rw [List.length_replicate]; omega) (by
      rw [h0]
      obtain ⟨h, f, b1, b2, b3, b4, b5, b6⟩ := s.how
      have := hb.f1
      rcases b6 with ⟨z, _⟩ | ⟨z, z2, _⟩ <;> omega)
    have hj := a5 rows.length (by omega) (by rw [List.length_replicate]; omega)
    have e1 := play_short hb hj s (by rw [a3, h0]; omega)
    refine ⟨st'.set rows.length (t - i, t), ?_, by rw [List.length_set, a2, List.length_replicate], ?_⟩
    · rw [e, playR_append, a1]
      show playR b n st' (0 + rows.length) [g] = _
      rw [Nat.zero_add]
      unfold playR
      rw [e1]
      rfl
    · rw [idles_set hj, a4, i0, ei]
      show 0 + v - (0 - 0) + (t - (t - i)) = _
      omega
/-- what the row's growths are -/
theorem rows_bounds {b : Bk} (hb : b.Ok) {n : Int} {rows : List (List Int)} {u v : Int} (r : Rows b n rows u v) (hn : 1 ≤ n) : ∀ g ∈ rows, g.length ≤ 2 ∧ ∀ m ∈ g, 1 ≤ m ∧ m ≤ n := by
  induction r with
  | nil => intro g h; cases h
  | cons w r ih =>
    intro g' h
    rcases List.mem_cons.mp h with e | e
    · subst e
      have f1 := hb.f1
      have le := w.le
      rcases w.how with ⟨a, c, d⟩ | ⟨y, a, c, d, e⟩
      · subst d
        exact ⟨by decide, fun m hm => by rw [List.mem_singleton.mp hm]; omega⟩
      · subst e
        have := step_pos hb y
        refine ⟨by simp, fun m hm => ?_⟩
        rcases List.mem_cons.mp hm with z | z
        · subst z; omega
        · rw [List.mem_singleton.mp z]; omega
    · exact ih g' e
theorem full_bounds {b : Bk} (hb : b.Ok) {n : Int} (hn : 1 ≤ n) (files : Nat) : (fullestM b n files).rows.length ≤ files ∧ ∀ g ∈ (fullestM b n files).rows, g.length ≤ 2 ∧ ∀ m ∈ g, 1 ≤ m ∧ m ≤ n := by
  cases fullest_reach hb (by omega : 0 ≤ n) files with
  | whole u hu r hl => exact ⟨hl, rows_bounds hb r hn⟩
  | short rows g t i v e r s ei hl =>
    refine ⟨by rw [e, List.length_append, List.length_singleton]; omega, fun g' hg => ?_⟩
    rw [e] at hg
    rcases List.mem_append.mp hg with z | z
    · exact rows_bounds hb r hn g' z
    · rw [List.mem_singleton.mp z]
      obtain ⟨h, f, b1, b2, b3, b4, b5, b6⟩ := s.how
      have := hb.f1
      rcases b6 with ⟨_, e2⟩ | ⟨z1, z2, e2⟩
      · subst e2
        exact ⟨by simp, fun m hm => by rw [List.mem_singleton.mp hm]; omega⟩
      · subst e2
        refine ⟨by simp, fun m hm => ?_⟩
        rcases List.mem_cons.mp hm with q | q
        · subst q; omega
        · rw [List.mem_singleton.mp q]; omega
end Gf
/-! ## GfC -/
/-! Rooms: runs and pairs, by how often a block is covered. -/
set_option linter.all false
namespace Gf
/-- a run (start, length), a pair (start, end) covers x -/
def inR (x : Int) (r : Int × Int) : Bool := decide (r.1 ≤ x) && decide (x < r.1 + r.2)
def inP (x : Int) (p : Int × Int) : Bool := decide (p.1 ≤ x) && decide (x < p.2)
def cntR (L : List (Int × Int)) (x : Int) : Nat := L.countP (inR x)
def cntP (L : List (Int × Int)) (x : Int) : Nat := L.countP (inP x)
def sumR (L : List (Int × Int)) : Int := (L.map (·.2)).sum
def sumP (L : List (Int × Int)) : Int := (L.map fun p => p.2 - p.1).sum
/-- one within 0 .. n - 1 -/
def oneIn (n x : Int) : Nat := if 0 ≤ x ∧ x < n then 1 else 0
theorem cntR_cons (r : Int × Int) (L : List (Int × Int)) (x : Int) : cntR (r :: L) x = (if inR x r = true then 1 else 0) + cntR L x := by
  unfold cntR; rw [List.countP_cons]; omega
theorem cntP_cons (r : Int × Int) (L : List (Int × Int)) (x : Int) : cntP (r :: L) x = (if inP x r = true then 1 else 0) + cntP L x := by
  unfold cntP; rw [List.countP_cons]; omega
theorem cntR_nil (x : Int) : cntR [] x = 0 := rfl
theorem cntP_nil (x : Int) : cntP [] x = 0 := rfl
theorem cntR_app (L M : List (Int × Int)) (x : Int) : cntR (L ++ M) x = cntR L x + cntR M x := List.countP_append
theorem cntP_app (L M : List (Int × Int)) (x : Int) : cntP (L ++ M) x = cntP L x + cntP M x := List.countP_append
theorem sumR_cons (r : Int × Int) (L : List (Int × Int)) : sumR (r :: L) = r.2 + sumR L := by simp [sumR]
theorem sumP_cons (r : Int × Int) (L : List (Int × Int)) : sumP (r :: L) = (r.2 - r.1) + sumP L := by simp [sumP]
theorem sumR_nil : sumR [] = 0 := rfl
theorem sumP_nil : sumP [] = 0 := rfl
theorem sumR_app (L M : List (Int × Int)) : sumR (L ++ M) = sumR L + sumR M := by simp [sumR]
theorem sumP_app (L M : List (Int × Int)) : sumP (L ++ M) = sumP L + sumP M := by simp [sumP]
theorem inR_iff {x : Int} {r : Int × Int} : inR x r = true ↔ r.1 ≤ x ∧ x < r.1 + r.2 := by simp [inR]
theorem inP_iff {x : Int} {r : Int × Int} : inP x r = true ↔ r.1 ≤ x ∧ x < r.2 := by simp [inP]
theorem cntR_perm {L M : List (Int × Int)} (h : L.Perm M) (x : Int) : cntR L x = cntR M x := h.countP_eq _
theorem sumR_perm {L M : List (Int × Int)} (h : L.Perm M) : sumR L = sumR M := by
  induction h with
  | nil => rfl
  | cons x _ ih => rw [sumR_cons, sumR_cons, ih]
  | swap x y l => rw [sumR_cons, sumR_cons, sumR_cons, sumR_cons]; omega
  | trans _ _ a b => rw [a, b]
theorem snoc_ind {α : Type} {p : List α → Prop} (h0 : p []) (h1 : ∀ l a, p l → p (l ++ [a])) (l : List α) : p l := by
  have key : ∀ r : List α, p r.reverse := by
    intro r
    induction r with
    | nil => exact h0
    | cons a r ih =>
      rw [List.reverse_cons]
      exact h1 _ a ih
  have := key l.reverse
  rw [List.reverse_reverse] at this
  exact this
theorem cntR_mem {L : List (Int × Int)} {r : Int × Int} {x : Int} (h : r ∈ L) (hx : inR x r = true) : 1 ≤ cntR L x := List.countP_pos_iff.mpr ⟨r, h, hx⟩
theorem cntP_mem {L : List (Int × Int)} {r : Int × Int} {x : Int} (h : r ∈ L) (hx : inP x r = true) : 1 ≤ cntP L x := List.countP_pos_iff.mpr ⟨r, h, hx⟩
/-! ### runs that lie apart -/
/-- runs of one block at least, no block twice, all of them within n -/
structure Apart (n : Int) (L : List (Int × Int)) : Prop where
  len : ∀ r ∈ L, 1 ≤ r.2
  one : ∀ x, cntR L x ≤ oneIn n x
theorem Apart.perm {n : Int} {L M : List (Int × Int)} (h : L.Perm M) (a : Apart n L) : Apart n M :=
  ⟨fun r hr => a.len r (h.mem_iff.mpr hr), fun x => by rw [← cntR_perm h]; exact a.one x⟩
theorem Apart.bound {n : Int} {L : List (Int × Int)} (a : Apart n L) {r : Int × Int} (h : r ∈ L) : 0 ≤ r.1 ∧ r.1 + r.2 ≤ n := by
  have h1 := a.len r h
  have h2 := a.one r.1
  have h3 := a.one (r.1 + r.2 - 1)
  have h4 := cntR_mem (x := r.1) h (inR_iff.mpr ⟨by omega, by omega⟩)
  have h5 := cntR_mem (x := r.1 + r.2 - 1) h (inR_iff.mpr ⟨by omega, by omega⟩)
  unfold oneIn at h2 h3
  split at h2
  · split at h3
    · omega
    · omega
  · omega
theorem Apart.tail {n : Int} {L : List (Int × Int)} {r : Int × Int} (a : Apart n (r :: L)) : Apart n L :=
  ⟨fun q hq => a.len q (List.mem_cons_of_mem _ hq), fun x => by have := a.one x; rw [cntR_cons] at this; omega⟩
/-- sorted by start: each ends ahead of the next -/
theorem Apart.chain {n : Int} : ∀ {L : List (Int × Int)}, Apart n L → L.Pairwise (fun a b => a.1 ≤ b.1) → L.Pairwise fun a b => a.1 + a.2 ≤ b.1
  | [], _, _ => .nil
  | r :: L, a, h => by
    obtain ⟨h1, h2⟩ := List.pairwise_cons.mp h
    refine List.pairwise_cons.mpr ⟨fun q hq => ?_, Apart.chain a.tail h2⟩
    have z1 := h1 q hq
    have z2 := a.one q.1
    have z3 := a.len q (List.mem_cons_of_mem _ hq)
    have z4 := cntR_mem (x := q.1) hq (inR_iff.mpr ⟨by omega, by omega⟩)
    rw [cntR_cons] at z2
    unfold oneIn at z2
    by_cases c : r.1 + r.2 ≤ q.1
    · exact c
    · have z5 : inR q.1 r = true := inR_iff.mpr ⟨z1, by omega⟩
      rw [if_pos z5] at z2
      split at z2 <;> omega
/-! ### joined -/
/-- F: what joined has found of the runs L -/
structure JoinOk (L F : List (Int × Int)) : Prop where
  sep : F.Pairwise fun a b => a.2 < b.1
  pos : ∀ p ∈ F, p.1 < p.2
  sum : sumP F = sumR L
  cnt : ∀ x, cntP F x = cntR L x
  last : ∀ F0 p, F = F0 ++ [p] → ∃ L0 r, L = L0 ++ [r] ∧ p.2 = r.1 + r.2
  none : F = [] → L = []
theorem joinOk_nil : JoinOk [] [] := ⟨.nil, fun _ h => absurd h (by simp), rfl, fun _ => rfl, fun F0 p h => by simp at h, fun _ => rfl⟩
theorem last_inj {α : Type} {A B : List α} {a b : α} (h : A ++ [a] = B ++ [b]) : A = B ∧ a = b := by
  have := List.append_inj' h rfl
  exact ⟨this.1, by simpa using this.2⟩
theorem JoinOk.add {L F : List (Int × Int)} {s l : Int} (j : JoinOk L F) (hl : 1 ≤ l) (h : ∀ p ∈ F, p.2 < s) : JoinOk (L ++ [(s, l)]) (F ++ [(s, s + l)]) := by
  refine ⟨?_, ?_, ?_, ?_, ?_, ?_⟩
  · refine List.pairwise_append.mpr ⟨j.sep, by simp, fun a ha b hb => ?_⟩
    have : b = (s, s + l) := by simpa using hb
    subst this
    exact h a ha
  · intro p hp
    rcases List.mem_append.mp hp with hp | hp
    · exact j.pos p hp
    · have : p = (s, s + l) := by simpa using hp
      subst this
      show s < s + l
      omega
  · rw [sumP_app, sumR_app, j.sum, sumP_cons, sumR_cons, sumP_nil, sumR_nil]
    show sumR L + (s + l - s + 0) = sumR L + (l + 0)
    omega
  · intro x
    rw [cntP_app, cntR_app, j.cnt x, cntP_cons, cntR_cons, cntP_nil, cntR_nil]
    rfl
  · intro F0 p e
    obtain ⟨_, e2⟩ := last_inj e
    exact ⟨L, (s, l), rfl, by rw [← e2]⟩
  · intro e
    simp at e
theorem JoinOk.glue {L F : List (Int × Int)} {a b l : Int} (j : JoinOk L (F ++ [(a, b)])) (hl : 1 ≤ l) : JoinOk (L ++ [(b, l)]) (F ++ [(a, b + l)]) := by
  have hab := j.pos (a, b) (by simp)
  have hab' : a < b := hab
  refine ⟨?_, ?_, ?_, ?_, ?_, ?_⟩
  · obtain ⟨h1, _, h3⟩ := List.pairwise_append.mp j.sep
    refine List.pairwise_append.mpr ⟨h1, by simp, fun q hq p hp => ?_⟩
    have : p = (a, b + l) := by simpa using hp
    subst this
    exact h3 q hq (a, b) (by simp)
  · intro p hp
    rcases List.mem_append.mp hp with hp | hp
    · exact j.pos p (List.mem_append_left _ hp)
    · have : p = (a, b + l) := by simpa using hp
      subst this
      show a < b + l
      omega
  · have := j.sum
    rw [sumP_app, sumP_cons, sumP_nil] at this
    rw [sumP_app, sumR_app, sumP_cons, sumR_cons, sumP_nil, sumR_nil]
    have e1 : sumP F + (b - a + 0) = sumR L := this
    show sumP F + (b + l - a + 0) = sumR L + (l + 0)
    omega
  · intro x
    have := j.cnt x
    rw [cntP_app, cntP_cons, cntP_nil] at this
    rw [cntP_app, cntR_app, cntP_cons, cntR_cons, cntP_nil, cntR_nil, ← this]
    have e1 : (if inP x (a, b + l) = true then 1 else 0) = (if inP x (a, b) = true then 1 else 0) + (if inR x (b, l) = true then 1 else 0 : Nat) := by
      simp only [inP_iff, inR_iff]
      by_cases c1 : a ≤ x ∧ x < b
      · rw [if_pos c1, if_pos (show a ≤ x ∧ x < b + l from ⟨c1.1, by omega⟩), if_neg (fun z : b ≤ x ∧ x < b + l => by omega)]
      · rw [if_neg c1]
        by_cases c2 : b ≤ x ∧ x < b + l
        · rw [if_pos c2, if_pos (show a ≤ x ∧ x < b + l from ⟨by omega, c2.2⟩)]
        · rw [if_neg c2, if_neg (fun z : a ≤ x ∧ x < b + l => by omega)]
    rw [e1]
    omega
  · intro F0 p e
    obtain ⟨_, e2⟩ := last_inj e
    exact ⟨L, (b, l), rfl, by rw [← e2]⟩
  · intro e
    simp at e
/-- what has been found ends at or ahead of the next run -/
theorem JoinOk.ahead {L F M : List (Int × Int)} {s l : Int} (j : JoinOk L F) (hc : (L ++ (s, l) :: M).Pairwise fun a b => a.1 + a.2 ≤ b.1) : ∀ F0 p, F = F0 ++ [p] → p.2 ≤ s ∧ ∀ q ∈ F0, q.2 < s := by
  intro F0 p e
  obtain ⟨L0, r, eL, ep⟩ := j.last F0 p e
  have h1 := (List.pairwise_append.mp hc).2.2 r (by rw [eL]; simp) (s, l) (by simp)
  have h2 : p.2 ≤ s := by rw [ep]; exact h1
  refine ⟨h2, fun q hq => ?_⟩
  have h3 := j.sep
  rw [e] at h3
  have h4 := (List.pairwise_append.mp h3).2.2 q hq p (by simp)
  have h5 := j.pos p (by rw [e]; simp)
  omega
theorem JoinOk.bound {n : Int} {L F : List (Int × Int)} (j : JoinOk L F) (a : Apart n L) {p : Int × Int} (h : p ∈ F) : 0 ≤ p.1 ∧ p.2 ≤ n := by
  have h1 := j.pos p h
  have h2 := cntP_mem (x := p.1) h (inP_iff.mpr ⟨by omega, by omega⟩)
  have h3 := cntP_mem (x := p.2 - 1) h (inP_iff.mpr ⟨by omega, by omega⟩)
  rw [j.cnt] at h2 h3
  have h4 := a.one p.1
  have h5 := a.one (p.2 - 1)
  unfold oneIn at h4 h5
  split at h4
  · split at h5 <;> omega
  · omega
/-! ### others, shared -/
def gapStep (st : List (Int × Int) × Int) (p : Int × Int) : List (Int × Int) × Int := (if st.2 < p.1 then st.1 ++ [(st.2, p.1)] else st.1, p.2)
def gapTo (P : List (Int × Int)) : List (Int × Int) × Int := P.foldl gapStep ([], 0)
/-- others -/
def othersM (P : List (Int × Int)) : List (Int × Option Int) := (gapTo P).1.map (fun p => (p.1, some p.2)) ++ [((gapTo P).2, none)]
def bef : Option Int → Option Int → Bool
  | none, _ => false
  | some _, none => true
  | some a, some b => decide (a < b)
def clipM (p q : Int × Option Int) : Option (Int × Option Int) :=
  let f := if p.1 < q.1 then q.1 else p.1
  if bef (some f) p.2 && bef (some f) q.2 then some (f, if bef p.2 q.2 then p.2 else q.2) else none
def sharedM (ours theirs : List (Int × Option Int)) : List (Int × Option Int) := ours.flatMap fun p => theirs.filterMap (clipM p)
theorem gapTo_snoc (P : List (Int × Int)) (p : Int × Int) : gapTo (P ++ [p]) = gapStep (gapTo P) p := by
  unfold gapTo
  rw [List.foldl_append] <;> rfl
/-- the gaps of separate pairs within n -/
structure GapOk (n : Int) (P G : List (Int × Int)) (at_ : Int) : Prop where
  lo : 0 ≤ at_
  hi : ∀ p ∈ P, p.2 ≤ at_
  end_ : P ≠ [] → ∃ p ∈ P, p.2 = at_
  pos : ∀ p ∈ G, 0 ≤ p.1 ∧ p.1 < p.2 ∧ p.2 ≤ at_
  sum : sumP G + sumP P = at_
  cnt : ∀ x, cntP G x + cntP P x = oneIn at_ x
theorem gap_ok {n : Int} : ∀ {P : List (Int × Int)}, (P.Pairwise fun a b => a.2 < b.1) → (∀ p ∈ P, 0 ≤ p.1 ∧ p.1 < p.2) → GapOk n P (gapTo P).1 (gapTo P).2 := by
  intro P
  refine snoc_ind (p := fun P => (P.Pairwise fun a b => a.2 < b.1) → (∀ p ∈ P, 0 ≤ p.1 ∧ p.1 < p.2) → GapOk n P (gapTo P).1 (gapTo P).2) ?_ (fun P p ih => ?_) P
  · exact fun _ _ => ⟨Int.le_refl _, fun _ h => absurd h (by simp), fun h => absurd rfl h, fun _ h => absurd h (by simp [gapTo]), rfl, fun x => by
      show 0 + 0 = _
      unfold oneIn
      show _ = if 0 ≤ x ∧ x < 0 then 1 else 0
      rw [if_neg (by omega)]⟩
  · intro hs hp
    obtain ⟨s1, _, s3⟩ := List.pairwise_append.mp hs
    have g := ih s1 fun q hq => hp q (List.mem_append_left _ hq)
    obtain ⟨p1, p2⟩ := hp p (by simp)
    have le : (gapTo P).2 ≤ p.1 := by
      by_cases hP : P = []
      · subst hP
        exact p1
      · obtain ⟨q, hq, e⟩ := g.end_ hP
        have := s3 q hq p (by simp)
        omega
    rw [gapTo_snoc]
    unfold gapStep
    have lo := g.lo
    have cntx : ∀ x, oneIn (gapTo P).2 x + (if (gapTo P).2 ≤ x ∧ x < p.1 then 1 else 0) + (if p.1 ≤ x ∧ x < p.2 then 1 else 0) = oneIn p.2 x := by
      intro x
      unfold oneIn
      by_cases c1 : 0 ≤ x ∧ x < (gapTo P).2
      · rw [if_pos c1, if_neg (by omega), if_neg (by omega), if_pos (by omega)]
      · rw [if_neg c1]
        by_cases c2 : (gapTo P).2 ≤ x ∧ x < p.1
        · rw [if_pos c2, if_neg (by omega), if_pos (by omega)]
        · rw [if_neg c2]
          by_cases c3 : p.1 ≤ x ∧ x < p.2
          · rw [if_pos c3, if_pos (by omega)]
          · rw [if_neg c3, if_neg (by omega)]
    by_cases c : (gapTo P).2 < p.1
    · simp only [if_pos c]
      refine ⟨by omega, fun q hq => ?_, fun _ => ⟨p, by simp, rfl⟩, fun q hq => ?_, ?_, fun x => ?_⟩
      · rcases List.mem_append.mp hq with hq | hq
        · have := g.hi q hq
          omega
        · have : q = p := by simpa using hq
          rw [this]
          exact Int.le_refl _
      · rcases List.mem_append.mp hq with hq | hq
        · have := g.pos q hq
          omega
        · have : q = ((gapTo P).2, p.1) := by simpa using hq
          subst this
          show 0 ≤ (gapTo P).2 ∧ (gapTo P).2 < p.1 ∧ p.1 ≤ p.2
          omega
      · have := g.sum
        rw [sumP_app, sumP_app, sumP_cons, sumP_cons, sumP_nil]
        show sumP (gapTo P).1 + (p.1 - (gapTo P).2 + 0) + (sumP P + (p.2 - p.1 + 0)) = p.2
        omega
      · have := g.cnt x
        rw [cntP_app, cntP_app, cntP_cons, cntP_cons, cntP_nil, ← cntx x, ← this]
        simp only [inP_iff]
        omega
    · simp only [if_neg c]
      refine ⟨by omega, fun q hq => ?_, fun _ => ⟨p, by simp, rfl⟩, fun q hq => ?_, ?_, fun x => ?_⟩
      · rcases List.mem_append.mp hq with hq | hq
        · have := g.hi q hq
          omega
        · have : q = p := by simpa using hq
          rw [this]
          exact Int.le_refl _
      · have := g.pos q hq
        omega
      · have := g.sum
        rw [sumP_app, sumP_cons, sumP_nil]
        show sumP (gapTo P).1 + (sumP P + (p.2 - p.1 + 0)) = p.2
        omega
      · have := g.cnt x
        have c2 := cntx x
        rw [if_neg (fun z : (gapTo P).2 ≤ x ∧ x < p.1 => by omega)] at c2
        rw [cntP_app, cntP_cons, cntP_nil, ← c2, ← this]
        simp only [inP_iff]
        omega
/-- the free pairs -/
def freeM (n : Int) (P : List (Int × Int)) : List (Int × Int) := (gapTo P).1 ++ (if (gapTo P).2 < n then [((gapTo P).2, n)] else [])
theorem clip_in {n a b : Int} (h : 0 ≤ a ∧ a < b ∧ b ≤ n) : clipM (0, some n) (a, some b) = some (a, some b) := by
  unfold clipM
  have h1 : (if (0 : Int) < a then a else 0) = a := by split <;> omega
  simp only [h1]
  have h2 : bef (some a) (some n) = true := by simp [bef]; omega
  have h3 : bef (some a) (some b) = true := by simp [bef]; omega
  have h4 : bef (some n) (some b) = false := by simp [bef]; omega
  rw [h2, h3, h4] <;> rfl
theorem clip_end {n a : Int} (h : 0 ≤ a) : clipM (0, some n) (a, none) = if a < n then some (a, some n) else none := by
  unfold clipM
  have h1 : (if (0 : Int) < a then a else 0) = a := by split <;> omega
  simp only [h1]
  have h3 : bef (some a) none = true := rfl
  have h4 : bef (some n) none = true := rfl
  rw [h3, h4]
  by_cases c : a < n
  · have h2 : bef (some a) (some n) = true := by simp [bef]; omega
    rw [h2, if_pos c] <;> rfl
  · have h2 : bef (some a) (some n) = false := by simp [bef]; omega
    rw [h2, if_neg c] <;> rfl
theorem filterMap_keep {α β : Type} {f : α → Option β} {g : α → β} : ∀ {l : List α}, (∀ a ∈ l, f a = some (g a)) → l.filterMap f = l.map g
  | [], _ => rfl
  | a :: r, h => by
    rw [List.filterMap_cons, h a List.mem_cons_self, List.map_cons, filterMap_keep fun b hb => h b (List.mem_cons_of_mem _ hb)]
theorem shared_free {n : Int} {P : List (Int × Int)} (hs : P.Pairwise fun a b => a.2 < b.1) (hp : ∀ p ∈ P, 0 ≤ p.1 ∧ p.1 < p.2) (hn : ∀ p ∈ P, p.2 ≤ n) (h0 : 0 ≤ n) : sharedM [(0, some n)] (othersM P) = (freeM n P).map fun p => (p.1, some p.2) := by
  have g := gap_ok (n := n) hs hp
  have hat : (gapTo P).2 ≤ n := by
    by_cases hP : P = []
    · subst hP
      exact h0
    · obtain ⟨q, hq, e⟩ := g.end_ hP
      have := hn q hq
      omega
  unfold sharedM othersM freeM
  rw [List.flatMap_cons, List.flatMap_nil, List.append_nil, List.filterMap_append, List.filterMap_map]
  have e1 : List.filterMap (clipM (0, some n) ∘ fun p : Int × Int => (p.1, some p.2)) (gapTo P).1 = (gapTo P).1.map fun p => (p.1, some p.2) := by
    refine filterMap_keep fun a ha => ?_
    have := g.pos a ha
    exact clip_in ⟨this.1, this.2.1, by omega⟩
  rw [e1, List.map_append]
  congr 1
  rw [List.filterMap_cons, clip_end g.lo]
  by_cases c : (gapTo P).2 < n
  · rw [if_pos c, if_pos c] <;> rfl
  · rw [if_neg c, if_neg c] <;> rfl
/-- what is told of the free pairs of a disk of n blocks that holds the runs L -/
structure FreeOk (n : Int) (L F : List (Int × Int)) : Prop where
  pos : ∀ p ∈ F, 0 ≤ p.1 ∧ p.1 < p.2 ∧ p.2 ≤ n
  sum : sumP F + sumR L = n
  cnt : ∀ x, cntP F x + cntR L x = oneIn n x
theorem free_ok {n : Int} {L P : List (Int × Int)} (h0 : 0 ≤ n) (a : Apart n L) (j : JoinOk L P) : FreeOk n L (freeM n P) := by
  have hp : ∀ p ∈ P, 0 ≤ p.1 ∧ p.1 < p.2 := fun p h => ⟨(j.bound a h).1, j.pos p h⟩
  have g := gap_ok (n := n) j.sep hp
  have hat : (gapTo P).2 ≤ n := by
    by_cases hP : P = []
    · subst hP
      exact h0
    · obtain ⟨q, hq, e⟩ := g.end_ hP
      have := (j.bound a hq).2
      omega
  have lo := g.lo
  unfold freeM
  by_cases c : (gapTo P).2 < n
  · rw [if_pos c]
    refine ⟨fun p hp => ?_, ?_, fun x => ?_⟩
    · rcases List.mem_append.mp hp with hp | hp
      · have := g.pos p hp
        omega
      · have : p = ((gapTo P).2, n) := by simpa using hp
        subst this
        exact ⟨lo, c, Int.le_refl _⟩
    · have := g.sum
      rw [sumP_app, sumP_cons, sumP_nil, ← j.sum]
      show sumP (gapTo P).1 + (n - (gapTo P).2 + 0) + sumP P = n
      omega
    · have := g.cnt x
      rw [cntP_app, cntP_cons, cntP_nil, ← j.cnt x]
      simp only [inP_iff]
      unfold oneIn at this ⊢
      split at this
      · rw [if_neg (by omega), if_pos (by omega)]
        omega
      · by_cases c2 : (gapTo P).2 ≤ x ∧ x < n
        · rw [if_pos c2, if_pos (by omega)]
          omega
        · rw [if_neg c2, if_neg (by omega)]
          omega
  · rw [if_neg c, List.append_nil]
    have e : (gapTo P).2 = n := by omega
    refine ⟨fun p hp => ?_, ?_, fun x => ?_⟩
    · have := g.pos p hp
      omega
    · have := g.sum
      rw [← j.sum]
      omega
    · have := g.cnt x
      rw [← j.cnt x, this, e]
/-! ### giving -/
/-- R may be given out of the free pairs F -/
structure GiveOk (F R : List (Int × Int)) : Prop where
  len : ∀ r ∈ R, 1 ≤ r.2
  cnt : ∀ x, cntR R x ≤ cntP F x
theorem Apart.give {n : Int} {L F R : List (Int × Int)} (a : Apart n L) (f : FreeOk n L F) (g : GiveOk F R) : Apart n (L ++ R) :=
  ⟨fun r hr => (List.mem_append.mp hr).elim (a.len r) (g.len r), fun x => by
    rw [cntR_app, ← f.cnt x]
    have := g.cnt x
    omega⟩
theorem sumP_nonneg {F : List (Int × Int)} (h : ∀ p ∈ F, p.1 < p.2) : 0 ≤ sumP F := by
  induction F with
  | nil => exact Int.le_refl _
  | cons p r ih =>
    rw [sumP_cons]
    have h1 := h p List.mem_cons_self
    have h2 := ih fun q hq => h q (List.mem_cons_of_mem _ hq)
    omega
theorem sumP_mem {F : List (Int × Int)} (h : ∀ p ∈ F, p.1 < p.2) {p : Int × Int} (hp : p ∈ F) : p.2 - p.1 ≤ sumP F := by
  induction F with
  | nil => simp at hp
  | cons q r ih =>
    rw [sumP_cons]
    have h1 := h q List.mem_cons_self
    have h0 := sumP_nonneg fun z hz => h z (List.mem_cons_of_mem q hz)
    rcases List.mem_cons.mp hp with e | hp
    · subst e
      omega
    · have h2 := ih (fun z hz => h z (List.mem_cons_of_mem _ hz)) hp
      omega
/-- a single run within a free pair -/
theorem give_one {F : List (Int × Int)} {p : Int × Int} {s m : Int} (hp : p ∈ F) (h1 : p.1 ≤ s) (h2 : s + m ≤ p.2) (hm : 1 ≤ m) : GiveOk F [(s, m)] := by
  refine ⟨fun r hr => ?_, fun x => ?_⟩
  · have : r = (s, m) := by simpa using hr
    rw [this]
    exact hm
  · rw [cntR_cons, cntR_nil]
    by_cases c : inR x (s, m) = true
    · have c2 := inR_iff.mp c
      have := cntP_mem (x := x) hp (inP_iff.mpr ⟨by have := c2.1; simp only at this; omega, by have := c2.2; simp only at this; omega⟩)
      rw [if_pos c]
      omega
    · rw [if_neg c]
      omega
/-- the runs of pairs -/
def runsM (F : List (Int × Int)) : List (Int × Int) := F.map fun p => (p.1, p.2 - p.1)
theorem sumR_runs (F : List (Int × Int)) : sumR (runsM F) = sumP F := by
  unfold sumR runsM sumP
  rw [List.map_map] <;> rfl
/-- by_short_runs, amid its loop: found so far of the runs of the first i pairs -/
def shortStep (st : List (Int × Int) × Int) (r : Int × Int) : List (Int × Int) × Int := if 0 < st.2 then (st.1 ++ [(r.1, if r.2 < st.2 then r.2 else st.2)], st.2 - (if r.2 < st.2 then r.2 else st.2)) else st
def shortTo (many : Int) (Rs : List (Int × Int)) : List (Int × Int) × Int := Rs.foldl shortStep ([], many)
theorem shortTo_snoc (many : Int) (Rs : List (Int × Int)) (r : Int × Int) : shortTo many (Rs ++ [r]) = shortStep (shortTo many Rs) r := by
  unfold shortTo
  rw [List.foldl_append] <;> rfl
theorem short_ok {many : Int} (hm : 0 ≤ many) : ∀ {F : List (Int × Int)}, (∀ p ∈ F, p.1 < p.2) →
    GiveOk F (shortTo many (runsM F)).1 ∧ sumR (shortTo many (runsM F)).1 = many - (shortTo many (runsM F)).2 ∧ 0 ≤ (shortTo many (runsM F)).2 ∧ many - (shortTo many (runsM F)).2 = (if many < sumP F then many else sumP F) := by
  intro F
  refine snoc_ind (p := fun F => (∀ p ∈ F, p.1 < p.2) →
    GiveOk F (shortTo many (runsM F)).1 ∧ sumR (shortTo many (runsM F)).1 = many - (shortTo many (runsM F)).2 ∧ 0 ≤ (shortTo many (runsM F)).2 ∧ many - (shortTo many (runsM F)).2 = (if many < sumP F then many else sumP F)) ?_ (fun F p ih => ?_) F
  · intro _
    refine ⟨⟨fun r h => absurd h (by simp [shortTo, runsM]), fun x => Nat.le_refl _⟩, ?_, hm, ?_⟩
    · show (0 : Int) = many - many
      omega
    · show many - many = if many < 0 then many else 0
      rw [if_neg (by omega)]
      omega
  · intro h
    obtain ⟨g, e1, e2, e3⟩ := ih fun q hq => h q (List.mem_append_left _ hq)
    have hp := h p (by simp)
    have hs := sumP_nonneg fun q hq => h q (List.mem_append_left _ hq)
    have er : runsM (F ++ [p]) = runsM F ++ [(p.1, p.2 - p.1)] := by simp [runsM]
    have es : sumP (F ++ [p]) = sumP F + (p.2 - p.1) := by rw [sumP_app, sumP_cons, sumP_nil]; omega
    rw [er, shortTo_snoc, es]
    unfold shortStep
    by_cases c : 0 < (shortTo many (runsM F)).2
    · simp only [if_pos c]
      have full : many - (shortTo many (runsM F)).2 = sumP F := by
        rw [e3]
        split at e3
        · omega
        · rw [if_neg (by assumption)]
      have t1 : ∀ t : Int, t = (if p.2 - p.1 < (shortTo many (runsM F)).2 then p.2 - p.1 else (shortTo many (runsM F)).2) → 1 ≤ t ∧ t ≤ p.2 - p.1 ∧ t ≤ (shortTo many (runsM F)).2 ∧ (t = p.2 - p.1 ∨ t = (shortTo many (runsM F)).2) := by
        intro t ht
        split at ht <;> omega
      obtain ⟨z1, z2, z3, z4⟩ := t1 _ rfl
      generalize (if p.2 - p.1 < (shortTo many (runsM F)).2 then p.2 - p.1 else (shortTo many (runsM F)).2) = t at z1 z2 z3 z4
      have g2 := give_one (F := F ++ [p]) (p := p) (s := p.1) (m := t) (by simp) (Int.le_refl _) (by omega) z1
      refine ⟨⟨fun r hr => (List.mem_append.mp hr).elim (g.len r) (g2.len r), fun x => ?_⟩, ?_, by omega, ?_⟩
      · have y1 := g.cnt x
        have y2 := give_one (F := [p]) (p := p) (s := p.1) (m := t) (by simp) (Int.le_refl _) (by omega) z1 |>.cnt x
        rw [cntR_app, cntP_app]
        omega
      · rw [sumR_app, sumR_cons, sumR_nil, e1]
        show many - (shortTo many (runsM F)).2 + (t + 0) = many - ((shortTo many (runsM F)).2 - t)
        omega
      · split <;> omega
    · simp only [if_neg c]
      refine ⟨⟨g.len, fun x => ?_⟩, e1, e2, ?_⟩
      · have := g.cnt x
        rw [cntP_app]
        omega
      · split at e3 <;> split <;> omega
end Gf
/-! ## GfM -/
/-! Plain mathematics: runs put behind a file's last run. -/
set_option linter.all false
namespace Gf
def putStep (L : List (Int × Int)) (r : Int × Int) : List (Int × Int) := match L.getLast? with
  | some l => if l.1 + l.2 = r.1 then L.dropLast ++ [(l.1, l.2 + r.2)] else L ++ [r]
  | none => [r]
def putM (L R : List (Int × Int)) : List (Int × Int) := R.foldl putStep L
theorem put_nil {r : Int × Int} : putStep [] r = [r] := rfl
theorem put_snoc {L : List (Int × Int)} {l r : Int × Int} : putStep (L ++ [l]) r = if l.1 + l.2 = r.1 then L ++ [(l.1, l.2 + r.2)] else L ++ [l] ++ [r] := by
  unfold putStep
  rw [List.getLast?_concat]
  show (if l.1 + l.2 = r.1 then (L ++ [l]).dropLast ++ [(l.1, l.2 + r.2)] else L ++ [l] ++ [r]) = _
  rw [List.dropLast_concat]
theorem putM_snoc {L R : List (Int × Int)} {r : Int × Int} : putM L (R ++ [r]) = putStep (putM L R) r := by
  unfold putM
  rw [List.foldl_append] <;> rfl
structure PutOk (L R F : List (Int × Int)) : Prop where
  len : (∀ r ∈ L, 1 ≤ r.2) → (∀ r ∈ R, 1 ≤ r.2) → ∀ r ∈ F, 1 ≤ r.2
  cnt : (∀ r ∈ L, 1 ≤ r.2) → (∀ r ∈ R, 1 ≤ r.2) → ∀ x, cntR F x = cntR L x + cntR R x
  sum : sumR F = sumR L + sumR R
  size : F.length ≤ L.length + R.length
theorem put_one {L : List (Int × Int)} {r : Int × Int} : PutOk L [r] (putStep L r) := by
  rcases List.eq_nil_or_concat L with e | ⟨L0, l, e⟩
  · subst e
    rw [put_nil]
    exact ⟨fun _ h => h, fun _ _ x => by rw [cntR_nil]; omega, by rw [sumR_nil]; omega, by simp⟩
  · rw [List.concat_eq_append] at e
    subst e
    rw [put_snoc]
    by_cases c : l.1 + l.2 = r.1
    · rw [if_pos c]
      refine ⟨fun hL hR q hq => ?_, fun hL hR x => ?_, ?_, by simp⟩
      · rcases List.mem_append.mp hq with z | z
        · exact hL q (List.mem_append_left _ z)
        · rw [List.mem_singleton.mp z]
          have h1 := hL l (by simp)
          have h2 := hR r (by simp)
          show 1 ≤ l.2 + r.2
          omega
      · have h1 := hL l (by simp)
        have h2 := hR r (by simp)
        rw [cntR_app, cntR_app, cntR_cons, cntR_cons, cntR_cons, cntR_nil]
        have e1 : (if inR x (l.1, l.2 + r.2) = true then 1 else 0 : Nat) = (if inR x l = true then 1 else 0) + (if inR x r = true then 1 else 0) := by
          simp only [inR_iff]
          by_cases c1 : l.1 ≤ x ∧ x < l.1 + l.2
          · rw [if_pos c1, if_pos (show l.1 ≤ x ∧ x < l.1 + (l.2 + r.2) from ⟨c1.1, by omega⟩), if_neg (fun z : r.1 ≤ x ∧ x < r.1 + r.2 => by omega)]
          · rw [if_neg c1]
            by_cases c2 : r.1 ≤ x ∧ x < r.1 + r.2
            · rw [if_pos c2, if_pos (show l.1 ≤ x ∧ x < l.1 + (l.2 + r.2) from ⟨by omega, by omega⟩)]
            · rw [if_neg c2, if_neg (fun z : l.1 ≤ x ∧ x < l.1 + (l.2 + r.2) => by omega)]
        rw [e1]
        omega
      · rw [sumR_app, sumR_app, sumR_cons, sumR_cons, sumR_cons, sumR_nil]
        show sumR L0 + (l.2 + r.2 + 0) = _
        omega
    · rw [if_neg c]
      refine ⟨fun hL hR q hq => ?_, fun hL hR x => ?_, ?_, by simp⟩
      · rcases List.mem_append.mp hq with z | z
        · exact hL q z
        · exact hR q z
      · rw [cntR_app]
      · rw [sumR_app]
theorem put_ok (L : List (Int × Int)) : ∀ R, PutOk L R (putM L R) := by
  intro R
  refine snoc_ind (p := fun R => PutOk L R (putM L R)) ?_ (fun R r ih => ?_) R
  · exact ⟨fun h _ => h, fun _ _ x => by rw [cntR_nil] <;> rfl, by rw [sumR_nil]; show sumR L = _; omega, by show L.length ≤ _; omega⟩
  · rw [putM_snoc]
    have o := put_one (L := putM L R) (r := r)
    refine ⟨fun hL hR => ?_, fun hL hR x => ?_, ?_, ?_⟩
    · exact o.len (ih.len hL fun q hq => hR q (List.mem_append_left _ hq)) fun q hq => hR q (List.mem_append_right _ hq)
    · rw [o.cnt (ih.len hL fun q hq => hR q (List.mem_append_left _ hq)) (fun q hq => hR q (List.mem_append_right _ hq)), ih.cnt hL (fun q hq => hR q (List.mem_append_left _ hq)), cntR_app]
      omega
    · rw [o.sum, ih.sum, sumR_app]
      omega
    · have h1 := o.size
      have h2 := ih.size
      rw [List.length_append, List.length_singleton]
      rw [List.length_singleton] at h1
      omega
end Gf
/-! ## GfW0 -/
set_option Elab.async false
set_option linter.all false
set_option maxRecDepth 100000
set_option maxHeartbeats 4000000
/-! What raises StopIteration, whether nothing or one exception (without a context) is being handled. -/
namespace Wm
open PySem PySem.Spec PyProof.Rows
/-- nothing is handled, or an exception whose context is None -/
def WarmAt (A : Around) (h : Heap) : Prop := A.handled = none ∨ ∃ x1, HotX.HotAt A x1 h
theorem WarmAt.keeps {A : Around} {h h' : Heap} (w : WarmAt A h) (k : ∀ b o, h.get? b = some o → h'.get? b = some o) : WarmAt A h' := by
  rcases w with e | ⟨x1, e, ob, vs, q1, q2, q3⟩
  · exact .inl e
  · exact .inr ⟨x1, e, ob, vs, k _ _ q1, q2, q3⟩
/-- all but the iterator's own cell stays; the handled exception is none of the iterator's -/
theorem WarmAt.but {A : Around} {h h' : Heap} {it : Addr} (w : WarmAt A h) (hf : ∀ ob vs, h.get? it = some ob → ob.data = .fields vs → vs[2]? ≠ some .none) (k : ∀ b o, b ≠ it → h.get? b = some o → h'.get? b = some o) : WarmAt A h' := by
  rcases w with e | ⟨x1, e, ob, vs, q1, q2, q3⟩
  · exact .inl e
  · refine .inr ⟨x1, e, ob, vs, k _ _ (fun z => ?_) q1, q2, q3⟩
    rw [z] at q1
    exact hf ob vs q1 q2 q3
section
variable {prog : Program} {w : World} {A : Around} {s : Shared}
theorem raise_warm {α : Type} {a : Addr} {oe : Obj} {vs : Array Value} {E : Value → Shared → Prop} {Q : α → Shared → Prop} (hw : WarmAt A s.heap) (hne : ∀ x1, HotX.HotAt A x1 s.heap → x1 ≠ a) (he : s.heap.get? a = some oe) (hd : oe.data = .fields vs) (hi : 2 < vs.size)
    (h0 : E (.ref a) s) (h1 : ∀ x1, E (.ref a) { s with heap := s.heap.update a (Obj.mapFields (·.setIfInBounds 2 (.ref x1))) }) : wpAny (model prog w) A (raiseNew (.ref a) : Sem α) Q E s := by
  rcases hw with e | ⟨x1, hot⟩
  · unfold raiseNew
    refine wpAny_bind (wpAny_handled ?_)
    rw [e]
    exact wpAny_bind (wpAny_pure (wpAny_throw h0))
  · exact HotX.raiseNew_hot hot (hne x1 hot) he hd hi (h1 x1)
/-- a StopIteration is made and raised -/
theorem stop_warm {α : Type} {E : Value → Shared → Prop} {Q : α → Shared → Prop} (hw : WarmAt A s.heap)
    (h : ∀ a h' ob vs, (∀ b o, s.heap.get? b = some o → h'.get? b = some o) → h'.get? a = some ob → ob.cls = .type "StopIteration" → ob.data = .fields vs → vs[5]? = some Value.none → E (.ref a) { s with heap := h' }) :
    wpAny (model prog w) A (newExc (.type "StopIteration") [] >>= fun e => (raiseNew e : Sem α)) Q E s := by
  refine wpAny_bind ?_
  simp only [newExc, newTuple]
  refine wpAny_bind (wpAny_newObj_type ?_ (by size_fits))
  refine wpAny_bind (m := firstArgMember _ _) (wpAny_of_eq (a := Value.none) (by first | rfl | (simp only [firstArgMember]; rfl)) ?_)
  refine wpAny_newObj_type ?_ (by size_fits)
  have keep2 : ∀ {o1 o2 : Obj} (b : Addr) (o : Obj), s.heap.get? b = some o → ((s.heap.push o1).push o2).get? b = some o := fun b o e => Heap.get?_push_of_some _ (Heap.get?_push_of_some _ e)
  refine raise_warm (hw.keeps fun b o e => keep2 b o e) (fun x1 hot => ?_) (Heap.get?_push_size _ rfl) rfl (by first | (simp; done) | (simp; omega) | (simp only [Array.size_append]; simp; omega)) ?_ (fun x1 => ?_)
  · rcases hw with e | ⟨x2, e, ob, vs, q1, _⟩
    · obtain ⟨e2, _⟩ := hot
      rw [e] at e2; cases e2
    · obtain ⟨e2, _⟩ := hot
      rw [e] at e2
      cases e2
      exact Nat.ne_of_lt (Heap.lt_size (Heap.get?_push_of_some _ q1))
  · refine h _ _ _ _ (fun b o e => keep2 b o e) (Heap.get?_push_size _ rfl) rfl rfl ?_
    first | rfl | (simp; done)
  · refine h _ _ _ _ (fun b o e => ?_) (Heap.get?_update_self _ (Heap.get?_push_size _ rfl) rfl) (by first | rfl | exact (Obj.cls_mapFields ..).trans rfl) (Obj.data_mapFields rfl _) ?_
    · rw [Heap.get?_update_other _ _ (Nat.ne_of_gt (Heap.lt_size (Heap.get?_push_of_some _ e)))]
      exact keep2 b o e
    · first | rfl | (simp; done) | (rw [Array.getElem?_setIfInBounds_ne (by decide)]; first | rfl | (simp; done))
end
end Wm
/-! ## GfW1 -/
set_option Elab.async false
set_option linter.all false
set_option maxRecDepth 100000
set_option maxHeartbeats 4000000
/-! The ends of iterators, and the unpacking of a tuple, likewise. -/
namespace Wm
open PySem PySem.Spec PyProof.Rows
section
variable {prog : Program} {w : World} {A : Around} {E : Value → Shared → Prop} {s : Shared}
theorem warm_field {A : Around} {h h' : Heap} {it : Addr} {a t : Value} {oi : Obj} (w : WarmAt A h) (e1 : h.get? it = some oi) (e2 : oi.data = .fields #[a, t]) (k : ∀ b o, b ≠ it → h.get? b = some o → h'.get? b = some o) : WarmAt A h' := by
  refine w.but (fun ob vs q1 q2 q3 => ?_) k
  rw [e1] at q1; cases q1
  rw [e2] at q2; cases q2
  simp at q3
theorem next_list_end_w {it l : Addr} {i : Nat} {items} {Q : Option Value → Shared → Prop} (hw : WarmAt A s.heap)
    (hi : s.heap.IsListIter it l i) (hl : s.heap.IsList l items) (hx : items[i]? = none)
    (hQ : ∀ h', Heap.ExtBut it s.heap h' → Q none { s with heap := h' }) : wpAny (model prog w) A (pyNext (.ref it)) Q E s := by
  obtain ⟨oi, e1, ec, e2⟩ := id hi
  obtain ⟨ol, l1, _, nl, l2⟩ := hl
  unfold pyNext
  refine wpAny_bind (wpAny_attempt (wpAny_callSpecial?_slot (name := Str.ofString "__next__") hi.typeIs slot_listiter_next
    (wpAny_call_entry slot_listiter_next hi.typeIs entry_listiter_next ?_ (args_listiter_next _))))
  show wpAny _ _ (field (.ref it) 0 >>= _) _ _ s
  refine wpAny_bind (wpAny_field e1 e2 (x := .ref l) rfl ?_)
  show wpAny _ _ (if (Value.ref l == Value.none) = true then _ else _) _ _ s
  rw [if_neg (show ¬ ((Value.ref l == Value.none) = true) from Bool.false_ne_true)]
  show wpAny _ _ (field (.ref it) 1 >>= _) _ _ s
  refine wpAny_bind (wpAny_field e1 e2 (x := .int i 0) rfl ?_)
  show wpAny _ _ (seqItems? (.ref l) >>= _) _ _ s
  refine wpAny_bind (wpAny_seqItems l1 l2 ?_)
  simp only [Int.toNat_natCast, hx]
  refine wpAny_bind (wpAny_rule (wpAny_bind (wpAny_setField e1 e2 (by simp) ?_)))
  have sb := Heap.SameBut.update s.heap it (Obj.mapFields (·.setIfInBounds 0 Value.none))
  refine stop_warm (s := { s with heap := s.heap.update it (Obj.mapFields (·.setIfInBounds 0 Value.none)) }) (warm_field (A := A.in1) hw e1 e2 fun b o hb q => (sb.2 b hb).trans q) fun a h' ob vs k ha hc hd h5 => ?_
  refine wpAny_bind (wpAny_isInstance (T := "StopIteration") (b := true) ⟨ob, ha, hc⟩ isSubtype_stop ?_)
  exact wpAny_pure (hQ _ fun b o hb q => k b o ((sb.2 b hb).trans q))
theorem next_tup_end_w {it t : Addr} {i : Nat} {items} {Q : Option Value → Shared → Prop} (hw : WarmAt A s.heap)
    (hi : IsTupIter s.heap it t i) (ht : IsTup s.heap t items) (hx : items[i]? = none)
    (hQ : ∀ h', Heap.ExtBut it s.heap h' → Q none { s with heap := h' }) : wpAny (model prog w) A (pyNext (.ref it)) Q E s := by
  obtain ⟨oi, e1, ec, e2⟩ := id hi
  obtain ⟨ol, l1, _, nl, l2⟩ := ht
  unfold pyNext
  refine wpAny_bind (wpAny_attempt (wpAny_callSpecial?_slot (name := Str.ofString "__next__") hi.typeIs slot_tupleiter_next
    (wpAny_call_entry slot_tupleiter_next hi.typeIs entry_tupleiter_next ?_ (args_tupleiter_next _))))
  show wpAny _ _ (field (.ref it) 0 >>= _) _ _ s
  refine wpAny_bind (wpAny_field e1 e2 (x := .ref t) rfl ?_)
  show wpAny _ _ (if (Value.ref t == Value.none) = true then _ else _) _ _ s
  rw [if_neg (show ¬ ((Value.ref t == Value.none) = true) from Bool.false_ne_true)]
  show wpAny _ _ (field (.ref it) 1 >>= _) _ _ s
  refine wpAny_bind (wpAny_field e1 e2 (x := .int i 0) rfl ?_)
  show wpAny _ _ (seqItems? (.ref t) >>= _) _ _ s
  refine wpAny_bind (wpAny_seqItems l1 l2 ?_)
  simp only [Int.toNat_natCast, hx]
  refine wpAny_bind (wpAny_rule (wpAny_bind (wpAny_setField e1 e2 (by simp) ?_)))
  have sb := Heap.SameBut.update s.heap it (Obj.mapFields (·.setIfInBounds 0 Value.none))
  refine stop_warm (s := { s with heap := s.heap.update it (Obj.mapFields (·.setIfInBounds 0 Value.none)) }) (warm_field (A := A.in1) hw e1 e2 fun b o hb q => (sb.2 b hb).trans q) fun a h' ob vs k ha hc hd h5 => ?_
  refine wpAny_bind (wpAny_isInstance (T := "StopIteration") (b := true) ⟨ob, ha, hc⟩ isSubtype_stop ?_)
  exact wpAny_pure (hQ _ fun b o hb q => k b o ((sb.2 b hb).trans q))
theorem unpack_items_w {t : Addr} {items : Array Value} {Q : List Value → Shared → Prop} (hw : WarmAt A s.heap) (ht : IsTup s.heap t items)
    (hQ : ∀ h', Heap.ExtBut s.heap.objs.size s.heap h' → Q items.toList { s with heap := h' }) : wpAny (model prog w) A (unpackItems (.ref t) items.size none) Q E s := by
  have hlt : t ≠ s.heap.objs.size := by obtain ⟨o, e, _⟩ := ht; exact Nat.ne_of_lt (Heap.lt_size e)
  unfold unpackItems
  refine wpAny_bind ?_
  unfold notIterableAtAll
  refine wpAny_bind (wpAny_specialOf ht.typeIs slot_tuple_iter.lookup ?_)
  refine wpAny_pure ?_
  simp only [Bool.false_eq_true, if_false]
  refine wpAny_bind (wpAny_holding (iter_tuple ht ?_))
  refine wpAny_bind (wpAny_holding (draw_tuple hlt items.size 0 _ _ ⟨_, Heap.get?_push_size _ rfl, rfl, rfl⟩ (ht.push _) (by omega) fun g1 it1 sb1 => ?_))
  have whole : List.take items.size (List.drop 0 items.toList) = items.toList := by
    rw [List.drop_zero]; exact List.take_of_length_le (by simp)
  rw [whole, if_neg (by simp)]
  have ht1 : IsTup g1 t items := (ht.push _).extBut sb1.extBut hlt
  have k1 : ∀ b o, s.heap.get? b = some o → g1.get? b = some o := fun b o e => sb1.extBut b o (Nat.ne_of_lt (Heap.lt_size e)) (Heap.get?_push_of_some _ e)
  refine wpAny_bind (wpAny_holding (next_tup_end_w (s := { s with heap := g1 }) (hw.keeps k1) it1 ht1 (by simp) fun g2 ex2 => ?_))
  simp only [Option.isSome_none, Bool.false_eq_true, if_false]
  refine wpAny_pure (hQ g2 fun b o hb e => ex2 b o hb (sb1.extBut b o hb (Heap.get?_push_of_some _ e)))
theorem assign_tup_w {env : Env} {elts : List Expr} {x1} {pos : Pos} {t : Addr} {items : Array Value} {Q : Unit → Shared → Prop} (hw : WarmAt A s.heap) (ht : IsTup s.heap t items)
    (hn : (assignEach elts env).length = items.size) (hstar : (assignEach elts env).findIdx? (·.1) = none)
    (h : ∀ h', Heap.ExtBut s.heap.objs.size s.heap h' → wpAny (model prog w) A (assignInOrder ((assignEach elts env).map (·.2)) items.toList) Q E { s with heap := h' }) :
    wpAny (model prog w) A (assign (.Tuple elts x1 pos) env (.ref t)) Q E s := by
  rw [assign_Tuple]
  refine wpAny_bind (wpAny_standAt ?_)
  unfold unpack
  rw [hn, hstar]
  exact wpAny_bind (wpAny_holding (unpack_items_w hw ht h))
/-- enumerate's end -/
theorem next_enum_end_w {e it l : Addr} {i : Nat} {items : Array Value} {old : Value} {Q : Option Value → Shared → Prop} (hw : WarmAt A s.heap)
    (he : IsEnum s.heap e it i old) (hi : s.heap.IsListIter it l i) (hl : s.heap.IsList l items) (hx : items[i]? = none)
    (hQ : ∀ h', Heap.ExtBut it s.heap h' → Q none { s with heap := h' }) : wpAny (model prog w) A (pyNext (.ref e)) Q E s := by
  have hT : s.TypeIs (.ref e) "enumerate" := ⟨_, he, rfl⟩
  obtain ⟨oi, e1, ec, e2⟩ := id hi
  obtain ⟨ol, l1, _, nl, l2⟩ := hl
  unfold pyNext
  refine wpAny_bind (wpAny_attempt (wpAny_callSpecial?_slot (name := Str.ofString "__next__") hT F.slot_enumerate_next
    (wpAny_call_entry F.slot_enumerate_next hT F.entry_enumerate_next ?_ (F.args_enumerate_next_1 _))))
  show wpAny _ _ (field (.ref e) 2 >>= _) _ _ _
  refine wpAny_bind (wpAny_field he rfl (x := .ref it) rfl ?_)
  refine wpAny_bind ?_
  unfold Builtin.SmallTypes.nextOf
  refine wpAny_bind (wpAny_callSpecial?_slot (name := Str.ofString "__next__") hi.typeIs slot_listiter_next
    (wpAny_call_entry slot_listiter_next hi.typeIs entry_listiter_next ?_ (args_listiter_next _)))
  show wpAny _ _ (field (.ref it) 0 >>= _) _ _ s
  refine wpAny_bind (wpAny_field e1 e2 (x := .ref l) rfl ?_)
  show wpAny _ _ (if (Value.ref l == Value.none) = true then _ else _) _ _ s
  rw [if_neg (show ¬ ((Value.ref l == Value.none) = true) from Bool.false_ne_true)]
  show wpAny _ _ (field (.ref it) 1 >>= _) _ _ s
  refine wpAny_bind (wpAny_field e1 e2 (x := .int i 0) rfl ?_)
  show wpAny _ _ (seqItems? (.ref l) >>= _) _ _ s
  refine wpAny_bind (wpAny_seqItems l1 l2 ?_)
  simp only [Int.toNat_natCast, hx]
  refine wpAny_bind (wpAny_rule (wpAny_bind (wpAny_setField e1 e2 (by simp) ?_)))
  have sb := Heap.SameBut.update s.heap it (Obj.mapFields (·.setIfInBounds 0 Value.none))
  refine stop_warm (s := { s with heap := s.heap.update it (Obj.mapFields (·.setIfInBounds 0 Value.none)) }) (warm_field (A := A.in1.in1) hw e1 e2 fun b o hb q => (sb.2 b hb).trans q) fun a h' ob vs k ha hc hd h5 => ?_
  refine wpAny_bind (wpAny_isInstance (T := "StopIteration") (b := true) ⟨ob, ha, hc⟩ isSubtype_stop ?_)
  exact wpAny_pure (hQ _ fun b o hb q => k b o ((sb.2 b hb).trans q))
end
end Wm
/-! ## GfW2 -/
set_option Elab.async false
set_option linter.all false
set_option maxRecDepth 100000
set_option maxHeartbeats 4000000
/-! list(d.values()), likewise. -/
namespace Wm
open PySem PySem.Spec PyProof.Rows
section
variable {prog : Program} {w : World} {K : Type} [DecidableEq K] {knd : PySem.KeyKind prog w K} {A : Around} {E : Value → Shared → Prop} {s : Shared}
theorem warm_field4 {A : Around} {h h' : Heap} {it : Addr} {a t u v : Value} {oi : Obj} (w : WarmAt A h) (e1 : h.get? it = some oi) (e2 : oi.data = .fields #[a, t, u, v]) (hu : u ≠ .none) (k : ∀ b o, b ≠ it → h.get? b = some o → h'.get? b = some o) : WarmAt A h' := by
  refine w.but (fun ob vs q1 q2 q3 => ?_) k
  rw [e1] at q1; cases q1
  rw [e2] at q2; cases q2
  simp at q3
  exact hu q3
theorem next_vals_end_w {it d : Addr} {i ep : Nat} {kvs : List (K × Value)} {Q : Option Value → Shared → Prop} (hw : WarmAt A s.heap) (hi : s.heap.IsValIter it d i kvs.length ep)
    (hm : s.heap.DictAt knd d kvs ep) (hx : kvs[i]? = none)
    (hQ : ∀ h', Heap.ExtBut it s.heap h' → Q none { s with heap := h' }) : wpAny (model prog w) A (pyNext (.ref it)) Q E s := by
  obtain ⟨oi, e1, ec, e2⟩ := id hi
  obtain ⟨od, es, d1, d2, d3, dk, dp, dn⟩ := id hm
  unfold pyNext
  refine wpAny_bind (wpAny_attempt (wpAny_callSpecial?_slot (name := Str.ofString "__next__") hi.typeIs F.slot_dict_valueiterator_next
    (wpAny_call_entry F.slot_dict_valueiterator_next hi.typeIs F.entry_dict_valueiterator_next ?_ (F.args_dict_valueiterator_next_1 _))))
  refine wpAny_bind (wpAny_pure ?_)
  refine wpAny_bind ?_
  refine wpAny_bind ?_
  first | refine wpAny_bind (wpAny_typeNameOfWhole_valiter hi.typeIs (wpAny_pure ?_)) | refine wpAny_bind (wpAny_typeNameOf_valiter hi.typeIs (wpAny_pure ?_))
  refine wpAny_bind (wpAny_fieldsOf e1 e2 ?_)
  have owns : Builtin.Dict_items.ownsTuple "dict_valueiterator" = false := by decide
  simp only [owns, Bool.false_eq_true, if_false]
  show wpAny _ _ (if (Value.ref d == Value.none) = true then _ else _) _ _ s
  rw [if_neg (show ¬ ((Value.ref d == Value.none) = true) from Bool.false_ne_true)]
  refine wpAny_bind (wpAny_pure ?_)
  refine wpAny_bind (wpAny_dictEntries d1 d3 ?_)
  have size : es.size = kvs.length := by rw [← dp.length]; simp
  rw [if_neg (by rw [size]; simp)]
  refine wpAny_bind (wpAny_pure ?_)
  refine wpAny_bind (wpAny_dictEpoch d1 d3 ?_)
  rw [if_neg (by simp)]
  refine wpAny_pure ?_
  have over : es.size ≤ i := by rw [size]; simpa using hx
  simp only [show ¬ ((i : Int) < 0) from by omega, if_false, Int.toNat_natCast, Array.getElem?_eq_none over]
  refine wpAny_bind ?_
  first | refine wpAny_bind (wpAny_typeNameOfWhole_valiter hi.typeIs (wpAny_pure ?_)) | refine wpAny_bind (wpAny_typeNameOf_valiter hi.typeIs (wpAny_pure ?_))
  show wpAny _ _ (setField (.ref it) 0 .none >>= _) _ _ s
  refine wpAny_bind (wpAny_setField e1 e2 (by simp) ?_)
  have sb := Heap.SameBut.update s.heap it (Obj.mapFields (·.setIfInBounds 0 Value.none))
  refine stop_warm (s := { s with heap := s.heap.update it (Obj.mapFields (·.setIfInBounds 0 Value.none)) }) (warm_field4 (A := A.in1) hw e1 e2 (fun z => by cases z) fun b o hb q => (sb.2 b hb).trans q) fun a h' ob vs k ha hc hd h5 => ?_
  refine wpAny_bind (wpAny_isInstance (T := "StopIteration") (b := true) ⟨ob, ha, hc⟩ isSubtype_stop ?_)
  exact wpAny_pure (hQ _ fun b o hb q => k b o ((sb.2 b hb).trans q))
theorem walks_vals_hot {x1 : Addr} (I d : Addr) (hne : d ≠ I) (hxI : x1 ≠ I) (kvs : List (K × Value)) (ep : Nat) :
    Walks prog w A I [I, d, x1] [I] kvs.length (fun i v => ∃ k, kvs[i]? = some (k, v)) (fun i h => (h.IsValIter I d i kvs.length ep ∧ h.DictAt knd d kvs ep) ∧ HotX.HotAt A x1 h) where
  sub := fun b hb => by simp at hb; simp [hb]
  frame := fun _ _ _ st hk => ⟨⟨st.1.1.at fun o e => hk I (by simp) o e, st.1.2.at' fun o e => hk d (by simp) o e⟩, st.2.1, let ⟨o, vs, q1, q2, q3⟩ := st.2.2; ⟨o, vs, hk x1 (by simp) o q1, q2, q3⟩⟩
  item := fun i s Q E hi st hQ => by
    obtain ⟨⟨k, x⟩, hx⟩ : ∃ p, kvs[i]? = some p := ⟨kvs[i], by simp [hi]⟩
    refine wpAny_pyNext_values_item st.1.1 st.1.2 hx fun h' it' sb => ?_
    refine hQ x h' s.toks ⟨k, hx⟩ ⟨⟨it', st.1.2.extBut sb.extBut hne⟩, st.2.1, let ⟨o, vs, q1, q2, q3⟩ := st.2.2; ⟨o, vs, sb.extBut x1 o hxI q1, q2, q3⟩⟩ fun b o hb e => sb.extBut b o (fun h => hb (by simp [h])) e
  done := fun s Q E st hQ => next_vals_end_w (.inr ⟨x1, st.2⟩) st.1.1 st.1.2 (by simp) fun h' ex => hQ h' s.toks fun b o hb e => ex b o (fun h => hb (by simp [h])) e
  self := fun _ _ _ _ st hQ => wpAny_pyIter_valiter st.1.1 hQ
/-- list(v), v a view of the values -/
theorem list_vals_hot {r d x1 : Addr} {kvs : List (K × Value)} {ep : Nat} {Q : Value → Shared → Prop} (hot : HotX.HotAt A x1 s.heap) (hv : s.heap.IsValuesView r d) (hm : s.heap.DictAt knd d kvs ep) (hn : kvs.length ≤ sizeLine)
    (hQ : ∀ h' tk acc c, (∀ b o, s.heap.get? b = some o → h'.get? b = some o) → h'.get? s.heap.objs.size = some { cls := .type "list", dict := none, data := .seq acc c, slots := #[] } → ItemsOf (fun i v => ∃ k, kvs[i]? = some (k, v)) acc kvs.length → Q (.ref s.heap.objs.size) { s with heap := h', toks := tk }) :
    wpAny (model prog w) A (call (.type "list") [.ref r]) Q E s := by
  obtain ⟨hh, oh, vh, h1, h2, h3⟩ := hot
  have rlt : r < s.heap.objs.size := let ⟨_, e, _⟩ := hv; Heap.lt_size e
  have dlt : d < s.heap.objs.size := hm.lt_size
  have xlt : x1 < s.heap.objs.size := Heap.lt_size h1
  refine callType_codes (Q₁ := fun obj s₁ => obj = .ref s.heap.objs.size ∧ s₁ = { s with heap := s.heap.push { cls := .type "list", data := .seq #[] } }) PySem.F.called_list (PySem.F.typeCall_list_1 _) PySem.F.entry_list_init
    (code_list_new _ ⟨rfl, rfl⟩) fun obj s₁ hobj => ?_
  obtain ⟨rfl, rfl⟩ := hobj
  have S0 : (s.heap.push { cls := .type "list", data := .seq #[] }).get? s.heap.objs.size = some { cls := .type "list", data := .seq #[] } := Heap.get?_push_size _ rfl
  refine ⟨⟨_, S0, rfl⟩, PySem.F.args_list_init_2 _ _, ?_⟩
  -- what stood keeps standing
  have up : ∀ (g : Heap) (f : Obj → Obj), (∀ b o, s.heap.get? b = some o → g.get? b = some o) → ∀ b o, s.heap.get? b = some o → (g.update s.heap.objs.size f).get? b = some o := fun g f q b o e =>
    (Heap.get?_update_other _ _ (Ne.symm (Nat.ne_of_lt (Heap.lt_size e)))).trans (q b o e)
  have k1 : ∀ b o, s.heap.get? b = some o → (s.heap.push { cls := .type "list", data := .seq #[] }).get? b = some o := fun b o e => Heap.get?_push_of_some _ e
  show wpAny _ _ (do let old ← Builtin.List.listItems (.ref s.heap.objs.size); Builtin.List.listUpdate (.ref s.heap.objs.size) (fun _ => #[]); letGo old.toList.reverse; Builtin.List.listExtendWith (.ref s.heap.objs.size) (.ref r) .none) _ _ _
  refine wpAny_bind ?_
  unfold Builtin.List.listItems
  refine wpAny_bind (wpAny_seqItems S0 rfl (wpAny_pure ?_))
  show wpAny _ _ (updateSeq s.heap.objs.size (fun _ => #[]) >>= fun _ => letGo (#[] : Array Value).toList.reverse >>= fun _ => Builtin.List.listExtendWith (.ref s.heap.objs.size) (.ref r) .none) _ _ _
  refine wpAny_bind (wpAny_updateSeq S0 rfl ?_)
  have S1 := Heap.get?_update_self (Obj.mapSeq (fun _ => (#[] : Array Value))) S0 rfl
  have k2 := up _ (Obj.mapSeq (fun _ => (#[] : Array Value))) k1
  refine wpAny_bind (wpAny_letGo ?_)
  generalize eg : (s.heap.push { cls := .type "list", data := .seq #[] }).update s.heap.objs.size (Obj.mapSeq (fun _ => (#[] : Array Value))) = g1 at S1 k2 ⊢
  have gsz : g1.objs.size = s.heap.objs.size + 1 := by rw [← eg, Heap.size_update, Heap.size_push]
  have at1 : ∀ {b : Addr} {o : Obj}, s.heap.get? b = some o → ∀ u, g1.get? b = some u → u = o := fun {b o} e u q => by rw [k2 b o e] at q; exact (Option.some.inj q).symm
  have v1 : g1.IsValuesView r d := let ⟨o, e, z⟩ := hv; ⟨o, k2 _ _ e, z⟩
  have m1 : g1.DictAt knd d kvs ep := hm.at' fun o e => k2 _ _ e
  have x1' : g1.get? x1 = some oh := k2 _ _ h1
  unfold Builtin.List.listExtendWith
  refine wpAny_bind (wpAny_typeOf (T := "dict_values") (Heap.IsValuesView.typeIs (s := { s with heap := g1 }) v1) ?_)
  have n1 : Builtin.List.listSameRef (.ref s.heap.objs.size) (.ref r) = false := by simp [Builtin.List.listSameRef, Nat.ne_of_gt rlt]
  have n2 : (Value.type "dict_values" == Value.type "list") = false := by decide
  have n3 : (Value.type "dict_values" == Value.type "tuple") = false := by decide
  simp only [n1, n2, n3, Bool.or_false, Bool.false_eq_true, if_false]
  refine wpAny_bind (wpAny_pyIter_values v1 m1 ?_)
  generalize eo : ({ cls := .type "dict_valueiterator", data := .fields #[.ref d, .int 0 0, .int kvs.length 0, .int ep 0] } : Obj) = oI
  have k3 : ∀ b o, g1.get? b = some o → (g1.push oI).get? b = some o := fun b o e => Heap.get?_push_of_some _ e
  have W := walks_vals_hot (prog := prog) (w := w) (A := A.in1.in1) (knd := knd) (x1 := x1) g1.objs.size d (Nat.ne_of_lt m1.lt_size) (Nat.ne_of_lt (Heap.lt_size x1')) kvs ep
  have st0 : ((g1.push oI).IsValIter g1.objs.size d 0 kvs.length ep ∧ (g1.push oI).DictAt knd d kvs ep) ∧ HotX.HotAt A.in1.in1 x1 (g1.push oI) := by
    refine ⟨⟨⟨oI, Heap.get?_push_size _ (by rw [← eo]; rfl), by rw [← eo], by rw [← eo]; rfl⟩, m1.push _⟩, hh, oh, vh, k3 _ _ x1', h2, h3⟩
  have SI : s.heap.objs.size ≠ g1.objs.size := by rw [gsz]; exact Nat.ne_of_lt (Nat.lt_succ_self _)
  have Sd : s.heap.objs.size ≠ d := Nat.ne_of_gt dlt
  have Sx : s.heap.objs.size ≠ x1 := Nat.ne_of_gt xlt
  have Sf : s.heap.objs.size ∉ [g1.objs.size, d, x1] := by simp only [List.mem_cons, List.not_mem_nil, or_false, not_or]; exact ⟨SI, Sd, Sx⟩
  have fin : ∀ (g : Heap) (c1 tk : Nat), (((g.IsValIter g1.objs.size d 0 kvs.length ep ∧ g.DictAt knd d kvs ep) ∧ HotX.HotAt A.in1.in1 x1 g)) → (∀ b o, s.heap.get? b = some o → g.get? b = some o) →
      g.get? s.heap.objs.size = some { cls := .type "list", dict := none, data := .seq #[] c1, slots := #[] } → codeAny (model prog w) A.in1 (.builtin "list.extend.loop" ⟨[.ref s.heap.objs.size, .ref g1.objs.size, .none], []⟩)
        (wants (fun r s₂ => r = Value.none ∧ Q (.ref s.heap.objs.size) s₂) E) { s with heap := g, toks := tk } := by
    intro g c1 tk hst hk hS
    refine codeAny_extend_loopS W.toS hn s.heap.objs.size Sf .none kvs.length 0 _ #[] c1 rfl (Nat.zero_le _) hst hS (ItemsOf.nil _) fun s' acc c hmv hS' hit => ?_
    rw [Moved.eq_with hmv]
    refine ⟨rfl, hQ s'.heap s'.toks acc c (fun b o e => hmv.heap b o (fun hmem => ?_) (hk b o e)) hS' hit⟩
    rcases List.mem_cons.mp hmem with z | z
    · exact absurd (Heap.lt_size e) (by rw [z]; exact Nat.lt_irrefl _)
    · have z' := List.mem_singleton.mp z
      have := Heap.lt_size e
      rw [z', gsz] at this
      exact absurd (Nat.lt_trans (Nat.lt_succ_self _) this) (Nat.lt_irrefl _)
  have S2 := Heap.get?_push_of_some oI S1
  refine wpAny_bind (wpAny_holding (PySem.W.kdl_hint_values (s := { s with heap := g1.push oI }) (Heap.IsValuesView.typeIs (s := { s with heap := g1.push oI }) (let ⟨o, e, z⟩ := v1; ⟨o, k3 _ _ e, z⟩)) ?_))
  refine wpAny_ite_split (fun _ => ?_) (fun _ => wpAny_pure ⟨plainId_quiet PySem.F.plain_extend_loop _, fin _ _ _ st0 (fun b o e => k3 _ _ (k2 b o e)) S2⟩)
  refine wpAny_bind (wpAny_rule ?_)
  refine wpAny_bind ?_
  show wpAny _ _ (updateSeq s.heap.objs.size (·.push .none) >>= fun _ => updateSeq s.heap.objs.size (·.pop)) _ _ _
  refine wpAny_bind (wpAny_updateSeq S2 rfl ?_)
  have S3 := Heap.get?_update_self (Obj.mapSeq (·.push Value.none)) S2 rfl
  refine wpAny_updateSeq (hz := by seq_fits) S3 rfl ?_
  have S4 := Heap.get?_update_self (Obj.mapSeq (·.pop)) S3 rfl
  refine wpAny_pure ⟨plainId_quiet PySem.F.plain_extend_loop _, fin _ _ _ ?_ (fun b o e => ?_) S4⟩
  · refine W.frame 0 _ _ st0 fun b hb o e => ?_
    have hbS : b ≠ s.heap.objs.size := fun z => Sf (z ▸ hb)
    exact (Heap.get?_update_other _ _ (Ne.symm hbS)).trans ((Heap.get?_update_other _ _ (Ne.symm hbS)).trans e)
  · exact up _ _ (up _ _ fun b o e => k3 _ _ (k2 b o e)) b o e
end
end Wm
/-! ## GfW3 -/
set_option Elab.async false
set_option linter.all false
set_option maxRecDepth 100000
set_option maxHeartbeats 4000000
/-! The layer's loops and targets where an exception may be handled. -/
namespace Wm
open PySem PySem.Spec PyProof.Rows L2
abbrev St := L2.St
/-- calm, or within a suite whose exception has no context -/
def WarmX (X : Cx) : Prop := X.calm = true ∨ L2H.HotC X
theorem WarmX.at {X : Cx} {pins : List (Addr × Obj)} {σ : St} {H : Hp} {s : Shared} (w : WarmX X) (I : Inv X pins σ H s) : WarmAt X.A s.heap := by
  rcases w with c | c
  · exact .inl (I.ok.hd c)
  · exact .inr (c.at I)
/-! ### targets -/
section
variable {X : Cx} {pos : Pos}
theorem pg_tupW {es : List Expr} {k : Nat} {t : TGs} {n : Nat} (hw : WarmX X) (h : PGs X es t)
    (hn : (assignEach es X.env).length = n := by rfl) (hst : (assignEach es X.env).findIdx? (·.1) = none := by rfl) : PG X (.Tuple es k pos) (gTup X.K n t) := by
  refine ⟨fun pins s σ H v u Q I r ht => ?_⟩
  obtain ⟨a, xs, ev, hq, hl, ht⟩ := ht
  subst ev
  cases r
  obtain ⟨its, rv, tp, hz⟩ := I.tuple hq
  refine assign_tup_w (hw.at I) tp (by simp [hn, ← hl, rv.length]) hst fun h' hx => ?_
  have J : Inv X pins σ H { s with heap := h' } := I.kept (t' := s.toks) fun b o e => hx b o (Nat.ne_of_lt (Heap.lt_size e)) e
  exact h.run pins _ σ H xs _ Q J (by simpa using rv) ht
theorem ps_parW {i j : Nat} {x y : Str} {a b : Expr} {ta : TA} {px py pt : Pos} {kt k2 pt2} (hw : WarmX X) (hN : X.N.Nodup) (hi : X.N[i]? = some x) (hj : X.N[j]? = some y) (hij : i ≠ j)
    (hx : X.env.scope.names.lookup x = some .local) (hy : X.env.scope.names.lookup y = some .local) (ha : PA X [a, b] ta)
    (hsw : swappedStores [.Tuple [.Name x px, .Name y py] kt pt] (.Tuple [a, b] k2 pt2) X.env = pure (some [x, y]))
    (hs : swapsWithSole [.Tuple [.Name x px, .Name y py] kt pt] (.Tuple [a, b] k2 pt2) pos.line X.env = pure false := by rfl) :
    PS X (.Assign [.Tuple [.Name x px, .Name y py] kt pt] (.Tuple [a, b] k2 pt2) pos) (tPar i j ta) := by
  refine ⟨fun pins s σ H D I h => ?_⟩
  rw [exec_Assign_arm]
  refine wpAny_bind (wpAny_standAt ?_)
  rw [hs]
  refine wpAny_bind (wpAny_pure ?_)
  rw [if_neg (by decide)]
  refine wpAny_bind (Tuple_ (thn (ha.run _ pins s σ H _ I h) fun us s1 ⟨vs, H1, I1, r1, q1⟩ => ?_))
  obtain ⟨v, u, ev, q1⟩ := q1
  subst ev
  obtain ⟨u1, u2, rfl, r2, r3⟩ : ∃ u1 u2, us = [u1, u2] ∧ RelV v u1 ∧ RelV u u2 := by
    cases r1 with
    | cons p q =>
      cases q with
      | cons p2 q2 =>
        cases q2
        exact ⟨_, _, rfl, p, p2⟩
  refine wpAny_newObj_type ?_ (by show 2 ≤ sizeLine; decide)
  have J2 : Inv X pins σ H1 { s1 with heap := s1.heap.push { cls := .type "tuple", data := .seq [u1, u2].toArray } } := I1.kept (t' := s1.toks) fun b o e => Heap.get?_push_of_some _ e
  rw [hsw]
  refine wpAny_bind (wpAny_pure ?_)
  show wpAny (model X.prog X.w) X.A (do rule "assign.swapped-stores"; let items ← unpackItems (.ref s1.heap.objs.size) 2 none; assignInOrder [fun v => bindName X.env y v, fun v => bindName X.env x v] items.reverse; pure Flow.next) _ _ _
  refine wpAny_bind (wpAny_rule (wpAny_bind (unpack_items_w (items := #[u1, u2]) (hw.at J2) (IsTup.new s1.heap _) fun h' k' => ?_)))
  have J3 := J2.kept (h' := h') (t' := s1.toks) fun b o e => k' b o (Nat.ne_of_lt (Heap.lt_size e)) e
  show wpAny _ _ (assignInOrder [fun v => bindName X.env y v, fun v => bindName X.env x v] [u2, u1] >>= fun _ => pure Flow.next) _ _ _
  refine wpAny_bind (assignInOrder_cons (wpAny_bindName (store_ok J3 hN hj (.inl hy) r3 (fun s2 J4 => ?_) (.inr hy))))
  refine assignInOrder_cons (wpAny_bindName (store_ok J4 hN hi (.inl hx) r2 (fun s3 J5 => assignInOrder_nil (wpAny_pure ?_)) (.inr hx)))
  rw [List.set_comm _ _ (Ne.symm hij)] at J5
  exact ⟨_, H1, J5, q1⟩
end
/-! ### what a loop walks -/
structure TurnW (P : Program) (w : World) (K : PySem.W.Frag) (tg : Expr) (J : It) (fp : List Addr) (it : Addr) (tn : Nat → Heap → Prop) : Prop where
  mem : it ∈ fp
  obj : ∀ i h, tn i h → ∀ b ∈ fp, ∃ o, h.get? b = some o ∧ ∀ v, o.data ≠ .cell v
  keep : ∀ i h h', tn i h → (∀ b ∈ fp, ∀ o, h.get? b = some o → h'.get? b = some o) → tn i h'
  item : ∀ (X : Cx), X.prog = P → X.w = w → X.K = K → WarmX X → ∀ (i : Nat) (pins : List (Addr × Obj)) (s : Shared) (σ : St) (H : Hp) (E : Value → Shared → Prop), Inv X pins σ H s → (∀ b ∈ fp, FpOk X pins H b) → tn i s.heap → J.go i H →
    wpAny (model P w) X.A (pyNext (.ref it)) (fun r s1 => ∃ u, r = some u ∧
      wpAny (model P w) X.A (letOwnedTupleGo tg (.ref it) u) (fun _ s2 => ∃ x H', Inv X pins σ H' s2 ∧ RelV x u ∧ J.yld i H x H' ∧ tn (i + 1) s2.heap ∧ ∀ b ∈ fp, H' b = none) E s1) E s
  done : ∀ (X : Cx), X.prog = P → X.w = w → X.K = K → WarmX X → ∀ (i : Nat) (pins : List (Addr × Obj)) (s : Shared) (σ : St) (H : Hp) (E : Value → Shared → Prop), Inv X pins σ H s → (∀ b ∈ fp, FpOk X pins H b) → tn i s.heap → J.stop i H →
    wpAny (model P w) X.A (pyNext (.ref it)) (fun r s1 => r = none ∧ Inv X pins σ H s1) E s
theorem turn_listW {P : Program} {w : World} {K : PySem.W.Frag} {tg : Expr} (a it : Addr) : TurnW P w K tg (Itl K a) [it] it (fun i h => h.IsListIter it a i) where
  mem := by simp
  obj := fun i h st b hb => by
    obtain rfl : b = it := by simpa using hb
    obtain ⟨o, e, c, d⟩ := st
    exact ⟨o, e, fun v z => by rw [d] at z; cases z⟩
  keep := fun i h h' st k => st.at fun o e => k it (by simp) o e
  item := by
    intro X hP hw hK hc i pins s σ H E I hf st hg
    subst hP hw hK
    obtain ⟨xs, x, hq, hx⟩ := hg
    obtain ⟨its, rv, p, hz⟩ := I.list hq
    obtain ⟨u, hu, ru⟩ := rv.get hx
    obtain ⟨f0, f1, f2, f3, f4, f5⟩ := hf it (by simp)
    refine wpAny_pyNext_list_item st p.isList (x := u) (by simpa using hu) fun h' st2 sb => ?_
    have J : Inv X pins σ H { s with heap := h' } := I.turned (t' := s.toks) (fun b o hb e => (sb.2 b hb).trans e) f0 f1 f3 f4 f5
    obtain ⟨o, e, c, d⟩ := id st2
    exact ⟨u, rfl, go_of (s := { s with heap := h' }) e c d (by decide) ⟨x, H, J, ru, ⟨rfl, fun ys hy => by rw [I.list_inj hy hq]; exact hx⟩, st2, fun b hb => (hf b hb).1⟩⟩
  done := by
    intro X hP hw hK hc i pins s σ H E I hf st hg
    subst hP hw hK
    obtain ⟨xs, hq, hx⟩ := hg
    obtain ⟨its, rv, p, hz⟩ := I.list hq
    obtain ⟨f0, f1, f2, f3, f4, f5⟩ := hf it (by simp)
    have hl := rv.length
    exact next_list_end_w (hc.at I) st p.isList (by simp; omega) fun h' eb => ⟨rfl, I.turned (t' := s.toks) (fun b o hb e => eb b o hb e) f0 f1 f3 f4 f5⟩
theorem turn_enumW {P : Program} {w : World} {K : PySem.W.Frag} {elts : List Expr} {kk : Nat} {tpos : Pos} (a e it : Addr) :
    TurnW P w K (.Tuple elts kk tpos) (Ite K a) [e, it] e (fun i h => (∃ old, IsEnum h e it ((i : Nat) : Int) old) ∧ h.IsListIter it a i ∧ e ≠ it) where
  mem := by simp
  obj := fun i h st b hb => by
    obtain ⟨⟨old, he⟩, ⟨o, ho, hc, hd⟩, _⟩ := st
    have two : b = e ∨ b = it := by simpa using hb
    rcases two with z | z
    · rw [z]; exact ⟨_, he, fun v q => nomatch q⟩
    · rw [z]; exact ⟨o, ho, fun v q => by rw [hd] at q; cases q⟩
  keep := fun i h h' st k => let ⟨⟨old, he⟩, hi, hne⟩ := st; ⟨⟨old, k e (by simp) _ he⟩, hi.at fun o q => k it (by simp) o q, hne⟩
  item := by
    intro X hP hw hK hc i pins s σ H E I hf st hg
    subst hP hw hK
    obtain ⟨⟨old, he⟩, hit, hne⟩ := st
    obtain ⟨xs, x, hq, hx⟩ := hg
    obtain ⟨its, rv, p, hz⟩ := I.list hq
    obtain ⟨u, hu, ru⟩ := rv.get hx
    have lt1 : e < s.heap.objs.size := Heap.lt_size he
    have lt2 : it < s.heap.objs.size := by obtain ⟨_, q, _⟩ := hit; exact Heap.lt_size q
    refine wpAny_pyNext_enum_item he hit p.isList (x := u) (by simpa using hu) hne fun h' ho hit' hT hsz hk => ?_
    refine ⟨_, rfl, wpAny_letOwnedTupleGo_enum (s := { s with heap := h', toks := s.toks + 1 }) ho fun h2 he2 sb => ?_⟩
    have hT2 : h2.get? s.heap.objs.size = some { cls := .type "tuple", data := .seq #[.int i s.toks, u] } := (sb.2 _ (Nat.ne_of_gt lt1)).trans hT
    have new : ObjOk X.prog X.w (upd H s.heap.objs.size (.tup [.int (i : Nat), x])) h2 s.heap.objs.size (.tup [.int (i : Nat), x]) :=
      ⟨by show 2 ≤ sizeLine; decide, [.int i s.toks, u], .cons ⟨_, rfl⟩ (.cons ru .nil), ⟨_, hT2, rfl, _, rfl⟩⟩
    have J : Inv X pins σ (upd H s.heap.objs.size (.tup [.int (i : Nat), x])) { s with heap := h2, toks := s.toks + 1 } :=
      I.turnedNew (ch := [e, it]) (fun b ob hb q => (sb.2 b (fun z => hb (by simp [z]))).trans (hk b ob (fun z => hb (by simp [z])) (fun z => hb (by simp [z])) q)) hf (Nat.le_refl _) new
    refine ⟨.ref s.heap.objs.size, _, J, rfl, ⟨_, x, rfl, I.hok.fresh (Nat.le_refl _), rfl, fun ys hy => by rw [I.list_inj hy hq]; exact hx⟩, ⟨⟨u, ?_⟩, hit'.at fun o q => (sb.2 it (Ne.symm hne)).trans q, hne⟩, fun b hb => ?_⟩
    · have e1 : ((i + 1 : Nat) : Int) = (i : Int) + 1 := by omega
      rw [e1]; exact he2
    · have lt3 : b < s.heap.objs.size := by
        have two : b = e ∨ b = it := by simpa using hb
        rcases two with z | z
        · rw [z]; exact lt1
        · rw [z]; exact lt2
      rw [upd_ne (Nat.ne_of_lt lt3)]
      exact (hf b hb).1
  done := by
    intro X hP hw hK hc i pins s σ H E I hf st hg
    subst hP hw hK
    obtain ⟨⟨old, he⟩, hit, hne⟩ := st
    obtain ⟨xs, hq, hx⟩ := hg
    obtain ⟨its, rv, p, hz⟩ := I.list hq
    obtain ⟨f0, f1, f2, f3, f4, f5⟩ := hf it (by simp)
    have hl := rv.length
    exact next_enum_end_w (hc.at I) he hit p.isList (by simp; omega) fun h' eb => ⟨rfl, I.turned (t' := s.toks) (fun b o hb q => eb b o hb q) f0 f1 f3 f4 f5⟩
def PIEW (X : Cx) (pins : List (Addr × Obj)) (σ : St) (tg : Expr) (R : It → Hp → Prop) (itv : Value) (s2 : Shared) : Prop :=
  ∃ (it : Addr) (fp : List Addr) (tn : Nat → Heap → Prop) (J : It) (H' : Hp), itv = .ref it ∧ Inv X pins σ H' s2 ∧ TurnW X.prog X.w X.K tg J fp it tn ∧ tn 0 s2.heap ∧ (∀ b ∈ fp, FpOk X pins H' b) ∧ R J H'
structure PIW (X : Cx) (tg iter : Expr) (wi : TI) : Prop where
  run : ∀ (pins : List (Addr × Obj)) (s : Shared) (σ : St) (H : Hp) (R : It → Hp → Prop), Inv X pins σ H s → wi σ H R →
    wpAny (model X.prog X.w) X.A (eval iter X.env) (fun v s1 => wpAny (model X.prog X.w) X.A (pyIter v) (PIEW X pins σ tg R) X.xe s1) X.xe s
section
variable {X : Cx} {tg : Expr}
theorem pi_listW {l : Expr} {tl : TE} (hl : PE X l tl) : PIW X tg l (iList X.K tl) := by
  refine ⟨fun pins s σ H R I h => ?_⟩
  refine thn (hl.run pins s σ H _ I h) fun v s1 ⟨x, H1, I1, r1, q1⟩ => ?_
  obtain ⟨a, e, ⟨xs, hq⟩, q⟩ := q1
  subst e
  cases r1
  obtain ⟨its, rv, p, hz⟩ := I1.list hq
  refine wpAny_pyIter_list p.isList ?_
  refine ⟨s1.heap.objs.size, [s1.heap.objs.size], _, _, H1, rfl, I1.kept (t' := s1.toks) fun b o e => Heap.get?_push_of_some _ e, turn_listW a _, ⟨_, Heap.get?_push_size _ rfl, rfl, rfl⟩, fun b hb => ?_, q⟩
  obtain rfl : b = s1.heap.objs.size := by simpa using hb
  exact I1.fpOk (Nat.le_refl _) (I1.hok.fresh (Nat.le_refl _))
theorem pi_enumW {e : Expr} {ta : TA} {p pos tpos : Pos} {elts : List Expr} {kk : Nat} (hg : Gl X "enumerate") (hm : X.mg "enumerate" = none) (ha : PA X [e] ta) (hs : starEach [e] X.env = [(false, eval e X.env)] := by rfl) :
    PIW X (.Tuple elts kk tpos) (.Call (.Name "enumerate" p) [e] [] pos) (iEnum X.K ta) := by
  refine ⟨fun pins s σ H R I h => ?_⟩
  refine Call_ (ld_blt I hg hm boot_enumerate (PyProof.Rows.callWith_type1 (thn (ha.run pos pins s σ H _ I h) fun us s1 ⟨vs, H1, I1, r1, q1⟩ => ?_) hs rfl))
  obtain ⟨a, xs, ex, hq, q⟩ := q1
  subst ex
  cases r1 with
  | cons r rr =>
    cases rr
    cases r
    obtain ⟨its, rv, p', hz⟩ := I1.list hq
    refine call_enumerate_list p'.isList fun h' he hit hsz hk => wpAny_pyIter_enum he ?_
    have J : Inv X pins σ H1 { s1 with heap := h' } := I1.kept (t' := s1.toks) hk
    refine ⟨s1.heap.objs.size + 1, [s1.heap.objs.size + 1, s1.heap.objs.size], _, _, H1, rfl, J, turn_enumW a (s1.heap.objs.size + 1) s1.heap.objs.size, ⟨⟨.none, he⟩, hit, Nat.succ_ne_self _⟩, fun b hb => ?_, q⟩
    have two : b = s1.heap.objs.size + 1 ∨ b = s1.heap.objs.size := by simpa using hb
    rcases two with z | z
    · rw [z]; exact I1.fpOk (Nat.le_succ _) (I1.hok.fresh (Nat.le_succ _))
    · rw [z]; exact I1.fpOk (Nat.le_refl _) (I1.hok.fresh (Nat.le_refl _))
theorem ps_forW {iter : Expr} {body : List Stmt} {wi : TI} {g : TG} {tb : TS} {pos : Pos} (hp : PassesOwn (model X.prog X.w) X.A X.env X.xe) (hc : WarmX X) (hi : PIW X tg iter wi) (hg : PG X tg g) (hb : PSs X body tb)
    (hs : ∀ x, foldedSetIterable iter X.env x = pure x := by intro _; rfl) : PS X (.For tg iter body [] pos) (tFor wi g tb) := by
  refine ⟨fun pins s σ H D I h => ?_⟩
  refine wpAny_For (thn (hi.run pins s σ H _ I h) fun v s1 h1 => thn h1 fun itv s2 h2 => ?_) hs
  obtain ⟨it, fp, tn, J, H2, e, I2, T, st2, f2, W, ⟨m0, w0⟩, turn⟩ := h2
  subst e
  have stat : ∀ {H' : Hp}, (∀ b ∈ fp, H' b = none) → ∀ b ∈ fp, FpOk X pins H' b := fun hn b hb => ⟨hn b hb, (f2 b hb).2⟩
  refine codeAny_forLoop_any (fun n s' => ∃ i σ' H', Inv X pins σ' H' s' ∧ tn i s'.heap ∧ (∀ b ∈ fp, H' b = none) ∧ W i n σ' H') ?_ m0 ⟨0, σ, H2, I2, st2, fun b hb => (f2 b hb).1, w0⟩
  rintro n s3 ⟨i, σ3, H3, I3, st3, fr3, w3⟩
  rcases turn i n σ3 H3 w3 with ⟨stop, qn⟩ | ⟨go, N, hN, step⟩
  · refine wpAny_passesOwn hp (thn (T.done X rfl rfl rfl hc i pins s3 σ3 H3 X.xe I3 (stat fr3) st3 stop) fun r s4 ⟨hr, I4⟩ => ?_)
    subst hr
    exact wpAny_execs_nil ⟨σ3, H3, I4, qn⟩
  · refine wpAny_passesOwn hp (thn (T.item X rfl rfl rfl hc i pins s3 σ3 H3 X.xe I3 (stat fr3) st3 go) fun r s4 ⟨u, hr, h4⟩ => ?_)
    subst hr
    refine wpAny_passesOwn hp (thn h4 fun _ s5 ⟨x, H5, I5, r5, y5, st5, fr5⟩ => ?_)
    have P5 := I5.pinned (stat fr5) (T.obj _ _ st5)
    refine wpAny_passesOwn hp (thn (hg.run _ s5 σ3 H5 x u _ P5 r5 (step x H5 y5)) fun _ s6 ⟨σ6, H6, I6, q6⟩ => ?_)
    refine wpAny_passesOwn hp (thn (hb.run _ s6 σ6 H6 _ I6 q6) fun f s7 q7 => ?_)
    have again : ∀ {σ7 : St} {H7 : Hp}, Inv X (pins ++ pinsAt fp s5.heap) σ7 H7 s7 → N σ7 H7 → ∃ m, m < n ∧ ∃ i σ' H', Inv X pins σ' H' s7 ∧ tn i s7.heap ∧ (∀ b ∈ fp, H' b = none) ∧ W i m σ' H' := fun {σ7 H7} I7 n7 => by
      obtain ⟨m', hm, w7⟩ := hN σ7 H7 n7
      refine ⟨m', hm, i + 1, σ7, H7, I7.unpinned, T.keep _ _ _ st5 fun b hb o e => (I7.pin (b, o) (List.mem_append_right _ (List.mem_append_right _ (mem_pinsAt hb e)))).1, fun b hb => ?_, w7⟩
      obtain ⟨o, e, d⟩ := T.obj _ _ st5 b hb
      exact (I7.pin (b, o) (List.mem_append_right _ (List.mem_append_right _ (mem_pinsAt hb e)))).2.1
    cases f with
    | next => obtain ⟨σ7, H7, I7, n7⟩ := q7; exact again I7 n7
    | cont => obtain ⟨σ7, H7, I7, n7⟩ := q7; exact again I7 n7
    | brk => obtain ⟨σ7, H7, I7, q7⟩ := q7; exact ⟨σ7, H7, I7.unpinned, q7⟩
    | ret v => obtain ⟨x7, σ7, H7, I7, r7, q7⟩ := q7; exact ⟨x7, σ7, H7, I7.unpinned, r7, q7⟩
end
end Wm
/-! ## GfW4 -/
set_option Elab.async false
set_option linter.all false
set_option maxRecDepth 100000
set_option maxHeartbeats 4000000
/-! Defs that may be called in either case. -/
namespace Wm
open PySem PySem.Spec PyProof.Rows L2
open L2H (RoomH Hot1 PinOk HotC FnH)
structure FnW (P : Program) (w : World) (K : PySem.W.Frag) (mg : Str → Option Value) (base : Heap) (k : Nat) (f : Addr) (fd : FuncData) (ps : List Str) (sp : Sp) : Prop where
  ok : FnOk P w K mg base CX0 k f fd ps sp
  hot : FnH P w K mg base CX0 k f fd ps sp
/-- the context of such a def's body -/
abbrev cxW (P : Program) (w : World) (K : PySem.W.Frag) (mg : Str → Option Value) (base : Heap) (N : List Str) (qual : Str) (scope : Scope) (f : Addr) (cd : Value) (A : Around) (outer : List Env) (s : Shared) (H : Hp) (E : XK) (c : Bool) (pn : List (Addr × Obj)) : Cx :=
  { cxOf CX0 P w K mg base N qual scope f cd A outer s H E with calm := c, pn := pn }
section
variable {P : Program} {w : World} {K : PySem.W.Frag} {mg : Str → Option Value} {base : Heap} {x qual : Str} {params : Arguments} {body : List Stmt} {scope : Scope} {dvs : List V} {kws : List (Str × V)} {f : Addr} {fd : FuncData}
theorem okW {N ps : List Str} {k : Nat} {sp : Sp} (F : FunD K x qual params body scope dvs kws f fd) (S : FnScope N ps scope) (len : ∀ vs H Q E, sp vs H Q E → vs.length = ps.length)
    (hbody : ∀ (cdv : Value) (A : Around) (outer : List Env) (s : Shared) (H : Hp) (vs : List V) (Q : VK) (E : XK) (c : Bool) (pn : List (Addr × Obj)), WarmX (cxW P w K mg base N qual scope f cdv A outer s H E c pn) → RoomH k (A.deeper (envOfC qual scope s.heap.objs.size f cdv)) → sp vs H Q E →
      ∃ t, PSs (cxW P w K mg base N qual scope f cdv A outer s H E c pn).nox body t ∧ t { nx := fun _ H' => Q .non H', rt := Q } (start N vs) H) : FnW P w K mg base (k + 1) f fd ps sp := by
  obtain ⟨oc, od, dV, kV, doc, pm, an, cdv, ct, osl, rfl, lk, hcd, _, _⟩ := F.ex
  refine ⟨fn_of lk hcd S len fun A outer s H vs Q E hr hsp => ?_, L2H.fn_ofH lk hcd S len fun A outer s H vs Q E p hot hr hsp => ?_⟩
  · obtain ⟨t, h, q⟩ := hbody cdv A outer s H vs Q E true [] (.inl rfl) ⟨hr.dp, hr.un⟩ hsp
    exact ⟨t, h.nox, q⟩
  · obtain ⟨t, h, q⟩ := hbody cdv A outer s H vs Q E false [p] (.inr ⟨p, hot, List.mem_singleton.mpr rfl⟩) hr hsp
    exact ⟨t, h.nox, q⟩
end
/-- a def of the module under its name; a method; a class that is made -/
structure CalW (P : Program) (w : World) (K : PySem.W.Frag) (mg : Str → Option Value) (base : Heap) (k : Nat) (x : Str) (sp : Sp) : Prop where
  ex : ∃ (f : Addr) (fd : FuncData) (ps : List Str), FnW P w K mg base k f fd ps sp ∧ mg x = some (.ref f) ∧ PySem.W.keepIn K (.ref f) = true ∧ Binds K fd ps []
structure MetW (P : Program) (w : World) (K : PySem.W.Frag) (mg : Str → Option Value) (base : Heap) (k : Nat) (C : Addr) (m : Str) (sp : Sp) : Prop where
  ex : ∃ (f : Addr) (fd : FuncData) (ps : List Str), Cls K C ∧ Meth K C m f ∧ FnW P w K mg base k f fd ps sp ∧ Binds K fd ps []
structure MakW (P : Program) (w : World) (K : PySem.W.Frag) (mg : Str → Option Value) (base : Heap) (k : Nat) (x : Str) (C : Addr) (sp : Sp) : Prop where
  ex : ∃ (f : Addr) (fd : FuncData) (ps : List Str), Mk K C f ∧ FnW P w K mg base k f fd ps sp ∧ mg x = some (.ref C) ∧ Binds K fd ps []
structure PrpW (P : Program) (w : World) (K : PySem.W.Frag) (mg : Str → Option Value) (base : Heap) (k : Nat) (C : Addr) (m : Str) (sp : Sp) : Prop where
  ex : ∃ (p f : Addr) (fd : FuncData) (ps : List Str), Cls K C ∧ PropOf K C m p f ∧ FnW P w K mg base k f fd ps sp ∧ Binds K fd ps []
theorem warm_nox {X : Cx} (w : WarmX X) : WarmX X.nox := w
section
variable {X : Cx} {k j : Nat} {f C : Addr} {fd : FuncData} {ps : List Str} {sp : Sp} {x m : Str} {p pos apos : Pos} {e o : Expr} {es : List Expr} {ta : TE} {t : TA}
theorem passH {σ : St} : PassesAt CX0 X σ E0 := fun _ _ _ _ _ _ h => h.elim
theorem run_w {pins : List (Addr × Obj)} {σ : St} {H : Hp} {s : Shared} {Q : VK} {us : List Value} {vs : List V} (F : FnW X.prog X.w X.K X.mg X.base k f fd ps sp) (hr : RoomH k X.A) (hw : WarmX X) (hb : Binds X.K fd ps [])
    (I : Inv X pins σ H s) (r : Vals vs us) (h : sp vs H Q E0) : wpAny (model X.prog X.w) X.A (call (.ref f) us) (EP X pins σ Q) X.xe s := by
  rcases hw with c | c
  · exact run_fn F.ok ⟨I.ok.hd c, hr.dp, hr.un⟩ hb .nil pass0 I r (by rw [List.append_nil]; exact h)
  · exact L2H.run_fnH (E := fun _ => E0) F.hot hr c hb passH I r h
theorem run_makeW {pins : List (Addr × Obj)} {σ : St} {H : Hp} {s : Shared} {Q : VK} {us : List Value} {vs : List V} (M : Mk X.K C f) (F : FnW X.prog X.w X.K X.mg X.base k f fd ps sp) (hr : RoomH (k + 1) X.A) (hw : WarmX X) (hb : Binds X.K fd ps []) (I : Inv X pins σ H s) (r : Vals vs us)
    (h : ∀ x dx, H x = none → H dx = none → dx ≠ x → sp (.ref x :: vs) (upd (upd H dx (.own x)) x (.ins C dx [])) (fun v H2 => v = .non ∧ Q (.ref x) H2) E0) :
    wpAny (model X.prog X.w) X.A (call (.ref C) us) (EP X pins σ Q) X.xe s := by
  rcases hw with c | c
  · exact run_make M F.ok ⟨I.ok.hd c, hr.dp, hr.un⟩ hb .nil pass0 I r fun y dy h1 h2 h3 => by rw [List.append_nil]; exact h y dy h1 h2 h3
  · have hq := h (s.heap.objs.size + 1) s.heap.objs.size (I.hok.fresh (Nat.le_succ _)) (I.hok.fresh (Nat.le_refl _)) (Nat.ne_of_lt (Nat.lt_succ_self _))
    have J := Inv.made (C := C) I
    obtain ⟨pn, hot, hp⟩ := c
    have r2 : Vals (V.ref (s.heap.objs.size + 1) :: vs) (Value.ref (s.heap.objs.size + 1) :: us) := .cons rfl r
    have hl : (Value.ref (s.heap.objs.size + 1) :: us).length = ps.length := by
      rw [← r2.length]
      exact F.hot.len _ _ _ _ hq
    have b := hb _ (Value.ref (s.heap.objs.size + 1) :: us) J.kIn (by rw [List.append_nil]; exact hl)
    rw [List.append_nil] at b
    have P1 := J.pin pn (List.mem_append_left _ hp)
    have pok : PinOk X.stack (upd (upd H s.heap.objs.size (.own (s.heap.objs.size + 1))) (s.heap.objs.size + 1) (.ins C s.heap.objs.size [])) _ pn := ⟨P1.1, P1.2.1, fun hm => (List.mem_cons.mp (J.stkSub pn.1 hm)).elim P1.2.2.1 P1.2.2.2.1, P1.2.2.2.2⟩
    have hot2 : Hot1 (X.A.under (.builtin "type.__call__" ⟨.ref C :: us, []⟩)) pn := ⟨by first | exact hot.1 | (simpa [Around.under] using hot.1), hot.2⟩
    refine wpAny_call (make_map (f := f) I.kIn M.makes M.init (beq_iff_eq.mp M.fn) (codeAny_mono (F.hot.run _ X.stack _ _ ⟨Value.ref (s.heap.objs.size + 1) :: us, []⟩ (Value.ref (s.heap.objs.size + 1) :: us) _ _ E0 pn (L2H.RoomH.make hr C us []) hot2 pok
      (J.env0.make C us []) b r2 hq) fun r s' hq2 => ?_))
    cases r with
    | error e => exact False.elim hq2
    | ok fl =>
      cases fl with
      | ret u =>
        obtain ⟨v, H', J3, rv, ev, q3⟩ := J.after hq2
        subst ev
        exact ⟨rv, ⟨V.ref (s.heap.objs.size + 1), H', J3, rfl, q3⟩⟩
      | next => exact False.elim hq2
      | brk => exact False.elim hq2
      | cont => exact False.elim hq2
/-- f(e, ..) -/
theorem pe_cw (c : CalW X.prog X.w X.K X.mg X.base k x sp) (hr : RoomH j X.A) (hk : k ≤ j) (hw : WarmX X) (hg : Gl X x) (ha : PA X (e :: es) t)
    (hdb : (x == ("__debug__" : Str)) = false := by decide) (he : starEach (e :: es) X.env = (false, eval e X.env) :: starEach es X.env := by rfl) (hpl : (backTo pos (starEach es X.env)).any (·.1) = false := by rfl) :
    PE X (.Call (.Name x p) (e :: es) [] pos) (tCall sp [] E0 t) := by
  obtain ⟨f, fd, ps, F, hm, kp, b⟩ := c.ex
  refine ⟨fun pins s σ H Q I h => ?_⟩
  refine wpAny_Call_Name_kw (ld_glob I hg hm ?_ hdb)
  refine PySem.W.callWith_K (h₀ := X.base) I.ok.mod.kin kp (thn (ha.run pos pins s σ H _ I h) fun us s1 ⟨vs, H1, I1, r, q⟩ => ⟨I1.kIn, ?_⟩) he hpl
  have q' : sp (vs ++ []) H1 Q E0 := q
  rw [List.append_nil] at q'
  exact run_w F (hr.mono hk) hw b I1 r q'
/-- o.m(e, ..) -/
theorem pe_mtw {pl : Sem Bool} (c : MetW X.prog X.w X.K X.mg X.base k C m sp) (hr : RoomH j X.A) (hk : k ≤ j) (hw : WarmX X) (he : PE X o ta) (ha : PA X (e :: es) t)
    (hst : starEach (e :: es) X.env = (false, eval e X.env) :: starEach es X.env := by rfl) (hpl : (backTo pos (starEach es X.env)).any (·.1) = false := by rfl)
    (ht : eval (.Call (.Attribute o m apos) (e :: es) [] pos) X.env = (do
      let ov ← eval o X.env
      standAt apos.atName
      let (f, first) ← holding [ov] (getMethod ov m pl)
      callWith pos f first (backTo pos (starEach (e :: es) X.env)) (backToKw pos (keywordEach [] X.env))) := by rfl) :
    PE X (.Call (.Attribute o m apos) (e :: es) [] pos) (tMeth C m sp [] E0 ta t) := by
  obtain ⟨f, fd, ps, hc, hm, F, b⟩ := c.ex
  refine ⟨fun pins s σ H Q I h => ?_⟩
  refine PySem.W.methodCall_KW (pl := pl) (thn (he.run pins s σ H _ I h) fun u s1 ⟨y, H1, I1, rx, a, dx, fs, ex, ea, l, q⟩ => ?_) ht
  subst ex
  obtain rfl : u = Value.ref a := rx
  refine getmeth_ok I1 ea hc hm l ?_
  refine PySem.W.callWith_K (first := [.ref a]) (h₀ := X.base) I.ok.mod.kin hm.kp (thn (ha.run pos pins s1 σ H1 _ I1 q) fun us s2 ⟨vs, H2, I2, r, q2⟩ => ⟨I2.kIn, ?_⟩) hst hpl
  have q' : sp ((.ref a :: vs) ++ []) H2 Q E0 := q2
  rw [List.append_nil] at q'
  exact run_w (us := .ref a :: us) (vs := .ref a :: vs) F (hr.mono hk) hw b I2 (.cons rfl r) q'
/-- o.m() -/
theorem pe_mtw0 {pl : Sem Bool} (c : MetW X.prog X.w X.K X.mg X.base k C m sp) (hr : RoomH j X.A) (hk : k ≤ j) (hw : WarmX X) (he : PE X o ta)
    (ht : eval (.Call (.Attribute o m apos) [] [] pos) X.env = (do
      let ov ← eval o X.env
      standAt apos.atName
      let (f, first) ← holding [ov] (getMethod ov m pl)
      callWith pos f first (backTo pos (starEach [] X.env)) (backToKw pos (keywordEach [] X.env))) := by rfl) :
    PE X (.Call (.Attribute o m apos) [] [] pos) (tMeth C m sp [] E0 ta tNil) := by
  obtain ⟨f, fd, ps, hc, hm, F, b⟩ := c.ex
  refine ⟨fun pins s σ H Q I h => ?_⟩
  refine PySem.W.methodCall_KW (pl := pl) (thn (he.run pins s σ H _ I h) fun u s1 ⟨y, H1, I1, rx, a, dx, fs, ex, ea, l, q⟩ => ?_) ht
  subst ex
  obtain rfl : u = Value.ref a := rx
  refine getmeth_ok I1 ea hc hm l ?_
  exact PySem.W.callWith_K0 (first := [.ref a]) I1.kIn hm.kp (run_w (us := [.ref a]) (vs := [.ref a]) F (hr.mono hk) hw b I1 (.cons rfl .nil) q)
/-- C(e, ..) -/
theorem pe_mkw (c : MakW X.prog X.w X.K X.mg X.base k x C sp) (hr : RoomH j X.A) (hk : k + 1 ≤ j) (hw : WarmX X) (hg : Gl X x) (ha : PA X (e :: es) t)
    (hdb : (x == ("__debug__" : Str)) = false := by decide) (he : starEach (e :: es) X.env = (false, eval e X.env) :: starEach es X.env := by rfl) (hpl : (backTo pos (starEach es X.env)).any (·.1) = false := by rfl) :
    PE X (.Call (.Name x p) (e :: es) [] pos) (tMake C sp [] E0 t) := by
  obtain ⟨f, fd, ps, M, F, hm, b⟩ := c.ex
  refine ⟨fun pins s σ H Q I h => ?_⟩
  refine wpAny_Call_Name_kw (ld_glob I hg hm ?_ hdb)
  refine PySem.W.callWith_K (h₀ := X.base) I.ok.mod.kin M.kp (thn (ha.run pos pins s σ H _ I h) fun us s1 ⟨vs, H1, I1, r, q⟩ => ⟨I1.kIn, ?_⟩) he hpl
  exact run_makeW M F (hr.mono hk) hw b I1 r fun y dy h1 h2 h3 => by
    have := q y dy h1 h2 h3
    rw [List.append_nil] at this
    exact this
/-- o.p, a property -/
theorem pe_prw (c : PrpW X.prog X.w X.K X.mg X.base k C m sp) (hr : RoomH j X.A) (hk : k + 1 ≤ j) (hw : WarmX X) (he : PE X o ta)
    (hab : attributeBase o m X.env (eval o X.env) = eval o X.env := by rfl) : PE X (.Attribute o m pos) (tProp C sp [] E0 ta) := by
  obtain ⟨p, g, fd, ps, hc, hp, F, hb⟩ := c.ex
  refine ⟨fun pins s σ H Q I h => ?_⟩
  refine attr_of hab (thn (he.run pins s σ H _ I h) fun u s1 ⟨y, H1, I1, rx, a, dx, fs, ex, ea, q⟩ => ?_)
  subst ex
  obtain rfl : u = Value.ref a := rx
  obtain ⟨mA, O, _, _, _, _⟩ := ins_get I1.hok ea
  obtain ⟨od, J, _⟩ := O.look
  obtain ⟨rest, hrec⟩ := hp.rec_
  have I2 := I1.tok (s1.toks + 1)
  have hl : ([Value.ref a] : List Value).length = ps.length := F.hot.len _ _ _ _ q
  have b := hb _ [Value.ref a] I2.kIn (by rw [List.append_nil]; exact hl)
  rw [List.append_nil] at b
  have hcl : (PySem.W.clsIn X.K C).isSome = true := by
    obtain ⟨cd, e1, _⟩ := PySem.W.any_some hc.hd
    rw [e1]
    rfl
  refine PySem.W.get_bind I1.kIn J (PySem.W.plainGet_of (hc.get m)).1 (PySem.W.findObj_data hcl hp.at_ hp.get hp.tak) (PySem.W.plainGet_of (hc.get m)).2 (wpAny_call (PySem.W.prop_get (s := { s1 with toks := s1.toks + 1 }) I1.kIn hrec ?_))
  have hr1 : RoomH (k + 1) X.A := hr.mono hk
  have fin : ∀ (r : Result) (s' : Shared), CR CX0 X.stack X.prog X.w H1 { s1 with toks := s1.toks + 1 } Q E0 r s' → (match r with
      | .ok (.ret v) => wpAny (model X.prog X.w) X.A (handedOut v) (EP X pins σ Q) X.xe s'
      | _ => False) := fun r s' hq => by
    cases r with
    | error er => exact False.elim hq
    | ok fl =>
      cases fl with
      | ret u =>
        obtain ⟨v, H', I3, rv, q3⟩ := I2.after hq
        show wpAny _ _ (handedOut u) _ _ _
        rw [PySem.W.handedOut_of (handed_of rv)]
        exact wpAny_pure ⟨v, H', I3, rv, q3⟩
      | next => exact False.elim hq
      | brk => exact False.elim hq
      | cont => exact False.elim hq
  have run2 : codeAny (model X.prog X.w) X.A.in1 (.call (.ref g) ⟨[.ref a], []⟩) (CR CX0 X.stack X.prog X.w H1 { s1 with toks := s1.toks + 1 } Q E0) { s1 with toks := s1.toks + 1 } := by
    rcases hw with c | c
    · exact F.ok.run X.A.in1 X.stack _ H1 ⟨[.ref a], []⟩ [.ref a] [.ref a] Q E0 ⟨I.ok.hd c, by have := hr1.dp; show X.A.depth + 3 * k + 5 < _; omega, by have := hr1.un; show X.A.units + 1 + 16 * k + 200 < _; omega⟩ I2.env0.in1 b (.cons rfl .nil) q
    · obtain ⟨pn, hot, hpn⟩ := c
      have P1 := I2.pin pn (List.mem_append_left _ hpn)
      exact F.hot.run X.A.in1 X.stack _ H1 ⟨[.ref a], []⟩ [.ref a] [.ref a] Q E0 pn ⟨by have := hr1.dp; show X.A.depth + 3 * k + 5 < _; omega, by have := hr1.un; show X.A.units + 1 + 16 * k + 200 < _; omega⟩ ⟨hot.1, hot.2⟩
        ⟨P1.1, P1.2.1, fun hm => (List.mem_cons.mp (I2.stkSub pn.1 hm)).elim P1.2.2.1 P1.2.2.2.1, P1.2.2.2.2⟩ I2.env0.in1 b (.cons rfl .nil) q
  refine codeAny_mono run2 fun r s' hq => ?_
  have := fin r s' hq
  cases r with
  | error er => exact False.elim hq
  | ok fl =>
    cases fl with
    | ret u => exact this
    | next => exact False.elim hq
    | brk => exact False.elim hq
    | cont => exact False.elim hq
end
end Wm
/-! ## GfG1 -/
set_option Elab.async false
set_option linter.all false
set_option maxRecDepth 100000
set_option maxHeartbeats 4000000
/-! A generator walked by a for loop: while it sleeps its consumer's frame changes; its context's entry is told anew. -/
namespace Wm
open PySem PySem.Spec PyProof.Rows L2 GenW
/-- an object that is no record -/
def NoRec (o : Obj) : Prop := ∀ vs, o.data ≠ .fields vs
/-- sc, but for the object at L, which stands as in s -/
def virt (L : Addr) (sc s : Shared) : Shared := { sc with heap := sc.heap.update L fun _ => (s.heap.get? L).getD default }
section
variable {L : Addr} {sc s s' : Shared} {o o0 : Obj}
theorem virt_sz : (virt L sc s).heap.objs.size = sc.heap.objs.size := Heap.size_update ..
theorem virt_ne {b : Addr} (h : b ≠ L) : (virt L sc s).heap.get? b = sc.heap.get? b := Heap.get?_update_other _ _ (Ne.symm h)
theorem virt_at (h0 : sc.heap.get? L = some o0) (h : s.heap.get? L = some o) : (virt L sc s).heap.get? L = some o := by
  have e : (s.heap.get? L).getD default = o := by
    rw [h] <;> rfl
  have q := Heap.get?_update_self (h := sc.heap) (a := L) (o := o0) (fun _ => (s.heap.get? L).getD default) h0 (by rw [e]; exact (Heap.get?_some_iff.mp h).2)
  exact q.trans (congrArg some e)
theorem virt_self (h0 : sc.heap.get? L = some o0) : ∀ b, (virt L sc sc).heap.get? b = sc.heap.get? b := fun b => by
  by_cases hb : b = L
  · subst hb
    rw [virt_at h0 h0, h0]
  · exact virt_ne hb
end
/-- the context, entered where the consumer's frame stands as in s -/
abbrev reb (X : Cx) (L : Addr) (s : Shared) : Cx := { X with s_0 := virt L X.s_0 s }
/-- L: a caller's frame, as it stood at the entry; no name is in a cell -/
structure FrL (X : Cx) (L : Addr) : Prop where
  at_ : ∃ o, X.s_0.heap.get? L = some o
  fs : L ∈ X.fs
  cells : ∀ x, X.env.cells.lookup x = none
theorem funs_virt {h h' base : Heap} {L : Addr} (k : ∀ b o, b ≠ L → h.get? b = some o → h'.get? b = some o) (hL : ∃ o, h'.get? L = some o ∧ NoRec o) : ∀ {l : List Env}, h.FunFrames base l → h'.FunFrames base l
  | [], _ => trivial
  | e :: r, x => by
    obtain ⟨hk, ⟨M, o, hf, hn, ho, hd⟩, hr⟩ := x
    refine ⟨hk, ?_, funs_virt k hL hr⟩
    by_cases z : M = L
    · obtain ⟨o', e', n'⟩ := hL
      exact ⟨M, o', hf, hn, by rw [z]; exact e', n'⟩
    · exact ⟨M, o, hf, hn, k M o z ho, hd⟩
section
variable {X : Cx} {L : Addr} {s s0 s' : Shared} {pins : List (Addr × Obj)} {σ : St} {H : Hp}
theorem FrL.base (F : FrL X L) (ok : X.Ok) : X.base.get? L = none := (ok.funs.mem F.fs).1
theorem FrL.ne (F : FrL X L) (ok : X.Ok) : L ≠ X.env.locals := by
  obtain ⟨o, e⟩ := F.at_
  exact Nat.ne_of_lt (Nat.lt_of_lt_of_le (Heap.lt_size e) ok.above)
theorem ok_reb (F : FrL X L) (ok : X.Ok) (hL : ∃ o, s.heap.get? L = some o ∧ NoRec o) : (reb X L s).Ok := by
  obtain ⟨o0, e0⟩ := F.at_
  obtain ⟨o, e, n⟩ := hL
  have nb := F.base ok
  refine ⟨ok.mod, ok.kind, ok.glob, ok.blt, ?_, ok.inj, ok.has, fun x c z y => ?_, ok.hd, ok.frames, ok.stk, ok.exf, fun b u q => ?_, ?_, ok.noex, ok.exfs, ?_, ok.frf⟩
  · show (virt L X.s_0 s).heap.objs.size ≤ _
    rw [virt_sz]; exact ok.above
  · rw [F.cells] at y; cases y
  · obtain ⟨q1, q2⟩ := ok.bs b u q
    refine ⟨?_, q2⟩
    show (virt L X.s_0 s).heap.get? b = some u
    rw [virt_ne fun z => by rw [z, nb] at q; cases q]
    exact q1
  · show _ ≤ (virt L X.s_0 s).heap.objs.size
    rw [virt_sz]; exact ok.bsz
  · exact funs_virt (L := L) (fun b u hb q => (virt_ne hb).trans q) ⟨o, virt_at e0 e, n⟩ ok.funs
/-- from the entry as it was -/
theorem Inv.rebase (F : FrL X L) (ok : X.Ok) (I : Inv (reb X L s0) pins σ H s) (os : s'.os = s.os) (bare : AllBare s'.gens) (k : ∀ b o, b ≠ L → s.heap.get? b = some o → s'.heap.get? b = some o) (hL : ∃ o, s'.heap.get? L = some o ∧ NoRec o) :
    Inv (reb X L s') pins σ H s' := by
  obtain ⟨o0, e0⟩ := id F.at_
  obtain ⟨o, e, n⟩ := id hL
  have HL : X.H_0 L = none := ok.frf L F.fs
  have vL : ∃ u, (virt L X.s_0 s0).heap.get? L = some u := I.ok.funs.mem F.fs |>.2.imp fun u z => z.1
  have hn : H L = none := by
    obtain ⟨u, z⟩ := vL
    exact I.base.free L u z HL (I.ok.exfs L · F.fs)
  have back : ∀ {b : Addr} {u : Obj}, b ≠ L → (virt L X.s_0 s').heap.get? b = some u → (virt L X.s_0 s0).heap.get? b = some u := fun {b u} hb q => by
    rw [virt_ne hb] at q ⊢
    exact q
  have nt : ∀ b u, H b = some u → b ≠ L := fun b u q z => by rw [z, hn] at q; cases q
  refine ⟨ok_reb F ok hL, os.trans I.os, bare, ⟨fun b u q h hb hx => ?_, fun b u q h hb hx => ?_, fun b u q h hx => ?_, fun b u q hx => ?_, I.base.tups, I.base.frzs, I.base.tbls⟩, ?_, fun x c z => ?_, I.free, I.freeC, fun p hp => ?_, fun b u q => ?_, I.len⟩
  · have hbL : b ≠ L := fun z => hb (by rw [z]; exact F.fs)
    exact k b u hbL (I.base.keep b u (back hbL q) h hb hx)
  · by_cases hbL : b = L
    · subst hbL
      have q' : (virt b X.s_0 s').heap.get? b = some u := q
      rw [virt_at e0 e] at q'
      cases q'
      exact ⟨o.slots, by rw [e]⟩
    · obtain ⟨sl, z⟩ := I.base.slot b u (back hbL q) h hb hx
      exact ⟨sl, k b _ hbL z⟩
  · by_cases hbL : b = L
    · rw [hbL]; exact hn
    · exact I.base.free b u (back hbL q) h hx
  · by_cases hbL : b = L
    · rw [hbL]; exact ⟨o, e⟩
    · obtain ⟨u', z⟩ := I.base.there b u (back hbL q) hx
      exact ⟨u', k b u' hbL z⟩
  · obtain ⟨m, ⟨ob, es, ep, ho, r⟩, hl⟩ := I.loc
    refine ⟨m, ⟨ob, es, ep, k _ ob (Ne.symm (F.ne ok)) ho, r⟩, fun i x v e1 e2 e3 => ?_⟩
    obtain ⟨u, r1, l⟩ := hl i x v e1 e2 e3
    refine ⟨u, r1, ?_⟩
    rcases l with l | ⟨_, c, z, _⟩
    · exact .inl l
    · have z' : X.env.cells.lookup x = some c := z
      rw [F.cells] at z'; cases z'
  · have z' : X.env.cells.lookup x = some c := z
    rw [F.cells] at z'; cases z'
  · obtain ⟨e1, n1, ne, nf, d⟩ := I.pin p hp
    exact ⟨k p.1 p.2 (fun z => nf (by rw [z]; exact F.fs)) e1, n1, ne, nf, d⟩
  · refine (I.hok b u q).stay (fun c v hc y => k c v ?_ y) (fun _ y => y) fun _ _ y => y
    rcases hc with y | y
    · rw [y]; exact nt b u q
    · exact nt c _ y
/-- the entry as it is -/
theorem Inv.reb0 (F : FrL X L) (I : Inv X pins σ H s) (hL : ∃ o, s.heap.get? L = some o ∧ NoRec o) : Inv (reb X L s) pins σ H s := by
  obtain ⟨o0, e0⟩ := id F.at_
  obtain ⟨o, e, n⟩ := id hL
  have ok := I.ok
  have HL : X.H_0 L = none := ok.frf L F.fs
  have hn : H L = none := I.base.free L o0 e0 HL (ok.exfs L · F.fs)
  have back : ∀ {b : Addr} {u : Obj}, b ≠ L → (virt L X.s_0 s).heap.get? b = some u → X.s_0.heap.get? b = some u := fun {b u} hb q => by
    rw [virt_ne hb] at q
    exact q
  refine ⟨ok_reb F ok hL, I.os, I.bare, ⟨fun b u q h hb hx => ?_, fun b u q h hb hx => ?_, fun b u q h hx => ?_, fun b u q hx => ?_, I.base.tups, I.base.frzs, I.base.tbls⟩, I.loc, I.cell, I.free, I.freeC, I.pin, I.hok, I.len⟩
  · have hbL : b ≠ L := fun z => hb (by rw [z]; exact F.fs)
    exact I.base.keep b u (back hbL q) h hb hx
  · by_cases hbL : b = L
    · subst hbL
      have q' : (virt b X.s_0 s).heap.get? b = some u := q
      rw [virt_at e0 e] at q'
      cases q'
      exact ⟨o.slots, by rw [e]⟩
    · exact I.base.slot b u (back hbL q) h hb hx
  · by_cases hbL : b = L
    · rw [hbL]; exact hn
    · exact I.base.free b u (back hbL q) h hx
  · by_cases hbL : b = L
    · rw [hbL]; exact ⟨o, e⟩
    · exact I.base.there b u (back hbL q) hx
end
section
variable {X : Cx} {sc s s' : Shared} {pins : List (Addr × Obj)} {σ σ' : St} {H H' : Hp}
/-- the consumer's own virtual state: its frame as it stands now, all else as at the generator's call -/
theorem Inv.virtual (hc : ∀ x, X.env.cells.lookup x = none) (I : Inv X pins σ H sc) (J : Inv X pins σ' H' s') : Inv X pins σ' H (virt X.env.locals sc s') := by
  obtain ⟨m0, ⟨o0, es0, ep0, e0, r0⟩, _⟩ := I.loc
  obtain ⟨m, ⟨o, es, ep, e, r⟩, hl⟩ := J.loc
  have at_ := virt_at (sc := sc) (s := s') e0 e
  have hn := I.free
  have nL : ∀ b u, X.s_0.heap.get? b = some u → b ≠ X.env.locals := fun b u q => Nat.ne_of_lt (Nat.lt_of_lt_of_le (Heap.lt_size q) I.ok.above)
  have k : ∀ b u, b ≠ X.env.locals → sc.heap.get? b = some u → (virt X.env.locals sc s').heap.get? b = some u := fun b u hb q => (virt_ne hb).trans q
  refine ⟨I.ok, I.os, I.bare, ⟨fun b u q h hb hx => k b u (nL b u q) (I.base.keep b u q h hb hx), fun b u q h hb hx => ?_, I.base.free, fun b u q hx => ?_, I.base.tups, I.base.frzs, I.base.tbls⟩, ⟨m, ⟨o, es, ep, at_, r⟩, fun j x v e1 e2 e3 => ?_⟩, fun x c z => ?_, I.free, I.freeC, fun p hp => ?_, fun b u q => ?_, J.len⟩
  · obtain ⟨sl, z⟩ := I.base.slot b u q h hb hx
    exact ⟨sl, k b _ (nL b u q) z⟩
  · obtain ⟨u', z⟩ := I.base.there b u q hx
    exact ⟨u', k b _ (nL b u q) z⟩
  · obtain ⟨u, r1, l⟩ := hl j x v e1 e2 e3
    refine ⟨u, r1, ?_⟩
    rcases l with l | ⟨_, c, z, _⟩
    · exact .inl l
    · rw [hc] at z; cases z
  · rw [hc] at z; cases z
  · obtain ⟨e1, n1, ne, nf, d⟩ := I.pin p hp
    exact ⟨k p.1 p.2 ne e1, n1, ne, nf, d⟩
  · refine (I.hok b u q).stay (fun c v hc y => k c v ?_ y) (fun _ y => y) fun _ _ y => y
    have nt : ∀ b u, H b = some u → b ≠ X.env.locals := fun b u q z => by rw [z, hn] at q; cases q
    rcases hc with y | y
    · rw [y]; exact nt b u q
    · exact nt c _ y
end
end Wm
/-! ## GfG2 -/
set_option Elab.async false
set_option linter.all false
set_option maxRecDepth 100000
set_option maxHeartbeats 4000000
/-! A for loop in a generator def's body; a generator made by a call, walked by a for loop. -/
namespace Wm
open PySem PySem.Spec PyProof.Rows L2 GenW
section
variable {prog : Program} {w : World} {A : Around} {R : GenEnd} {Y : Protocol} {n : Nat} {s₀ s : Shared} {c : Code} {fs : List Frame} {env : Env} {K : Flow → Sem PySem.Fin} {J : Value → Sem PySem.Fin} {gd : Bool → Bool} {lv : List Value → List Value} {tg iter : Expr} {body orelse : List Stmt} {pos : Pos}
/-- what the loop's call does with what comes back -/
abbrev backK (env : Env) (K : Flow → Sem PySem.Fin) (J : Value → Sem PySem.Fin) (gd : Bool → Bool) (lv : List Value → List Value) (r : Result) : Sem PySem.Fin :=
  ((match r with | .ok f => (.pure f : Sem Flow) | .error e => .raise e).onRaise (cameBack env)).wrap K J gd lv
theorem seg_For (h : wpAny (model prog w) (A.over c fs) (eval iter env) (fun x s₁ => wpAny (model prog w) (A.over c fs) (pyIter x) (fun it s₂ =>
      ∀ p, Seg (model prog w) A R Y n s₀ (.forLoop tg it body orelse env) ((model prog w).den (.forLoop tg it body orelse env)) (.ret (backK env K J gd lv) none (gd false) (lv []) c p [] :: fs) s₂) (fun _ _ => False) s₁) (fun _ _ => False) s)
    (hs : ∀ x, foldedSetIterable iter env x = pure x := by intro _; rfl) :
    Seg (model prog w) A R Y n s₀ c ((exec (.For tg iter body orelse pos) env).wrap K J gd lv) fs s := by
  rw [exec_For]
  refine seg_bind_wrap (wpAny_standAt ?_)
  refine seg_bind_wrap (wpAny_mono h (fun x s1 h1 => ?_) fun _ _ z => z.elim)
  refine seg_bind_wrap (wpAny_of_eq (hs x) ?_)
  refine seg_bind_wrap (wpAny_standAt ?_)
  refine seg_bind_wrap (wpAny_holding (wpAny_mono h1 (fun it s2 h2 => ?_) fun _ _ z => z.elim))
  exact seg_call h2
theorem seg_forLoop {it : Value} (h : wpAny (model prog w) (A.over (.forLoop tg it body [] env) fs) (pyNext it) (fun r s₁ => match r with
      | none => Seg (model prog w) A R Y n s₀ (.block [] env) (leafOf (.ok .next)) fs s₁
      | some v => wpAny (model prog w) (A.over (.forLoop tg it body [] env) fs) (letOwnedTupleGo tg it v) (fun _ s₂ => wpAny (model prog w) (A.over (.forLoop tg it body [] env) fs) (assign tg env v) (fun _ s₃ =>
          Seg (model prog w) A R Y n s₀ (.forLoop tg it body [] env) ((execs body env).wrap (fun f => match f with
            | .next | .cont => .pure (.again (.forLoop tg it body [] env))
            | .brk => .pure (.done .next)
            | .ret v => .pure (.done (.ret v))) (fun e => (do noteFrame e env; theTreesLotGoes e : Sem Unit).wrap (fun _ => .raise e) .raise id id) id id) fs s₃) (fun _ _ => False) s₂) (fun _ _ => False) s₁) (fun _ _ => False) s) :
    Seg (model prog w) A R Y n s₀ (.forLoop tg it body [] env) ((model prog w).den (.forLoop tg it body [] env)) fs s := by
  show Seg _ A R Y n s₀ _ ((forTurn tg it body [] env).onRaise (fun x => do noteFrame x env; theTreesLotGoes x)) fs s
  unfold forTurn
  rw [Sem.onRaise_eq_wrap]
  refine seg_bind_wrap (wpAny_standAt ?_)
  refine seg_bind_wrap (wpAny_onRaise (wpAny_mono h (fun r s1 h1 => ?_) fun _ _ z => z.elim))
  cases r with
  | none =>
    refine seg_again rfl ?_
    exact h1
  | some v =>
    refine seg_bind_wrap (wpAny_mono h1 (fun _ s2 h2 => ?_) fun _ _ z => z.elim)
    refine seg_bind_wrap (wpAny_mono h2 (fun _ s3 h3 => ?_) fun _ _ z => z.elim)
    rw [Sem.bind_eq_wrap', Sem.wrap_wrap]
    rw [Sem.wrap_congr (execs body env) _ _ (K' := fun f => match f with
            | .next | .cont => .pure (.again (.forLoop tg it body [] env))
            | .brk => .pure (.done .next)
            | .ret v => .pure (.done (.ret v))) (H' := (fun e => (do noteFrame e env; theTreesLotGoes e : Sem Unit).wrap (fun _ => .raise e) .raise id id))
        (fun f => by cases f <;> rfl)
        (fun e => by first | exact Sem.bind_eq_wrap _ _ | (show (do noteFrame e env; theTreesLotGoes e : Sem Unit).bind (fun _ => .raise e) = _; rw [Sem.bind_eq_wrap]))]
    exact h3
/-- a statement that hands out nothing, within a segment -/
theorem seg_ps {X : Cx} {st : Stmt} {t : TS} {pins : List (Addr × Obj)} {σ : St} {H : Hp} {Nx : St → Hp → Prop} (h : PS X st t) (hP : X.prog = prog) (hw : X.w = w) (hxe : X.xe = fun _ _ => False) (hov : A.over c fs = X.A) (I : Inv X pins σ H s) (ht : t { nx := Nx, rt := fun _ _ => False } σ H)
    (k : ∀ s' σ' H', Inv X pins σ' H' s' → Nx σ' H' → Seg (model prog w) A R Y n s₀ c (K .next) fs s') : Seg (model prog w) A R Y n s₀ c ((exec st X.env).wrap K J gd lv) fs s := by
  subst hP hw
  refine seg_wrap ?_
  rw [hov]
  refine wpAny_mono (h.run pins s σ H _ I ht) (fun f s' q => ?_) fun x s' q => ?_
  · cases f with
    | next =>
      obtain ⟨σ', H', I', z⟩ := q
      exact k s' σ' H' I' z
    | brk => obtain ⟨_, _, _, z⟩ := q; exact z.elim
    | cont => obtain ⟨_, _, _, z⟩ := q; exact z.elim
    | ret u => obtain ⟨_, _, _, _, _, z⟩ := q; exact z.elim
  · rw [hxe] at q
    exact q.elim
end
/-- while the generator sleeps its consumer's frame changes alone -/
structure SleptL (L : Addr) (s s' : Shared) : Prop where
  os : s'.os = s.os
  bare : AllBare s'.gens
  keep : ∀ b o, b ≠ L → s.heap.get? b = some o → s'.heap.get? b = some o
  at_ : ∃ o, s'.heap.get? L = some o ∧ NoRec o
/-- what the consumer knows when it is its turn: sc, H0: the generator's call; s₀: the state in which it was woken -/
structure LeftG (P : Program) (w : World) (outer : List Env) (H0 : Hp) (sc : Shared) (L : Addr) (s₀ : Shared) (H : Hp) (s : Shared) : Prop where
  os : s.os = sc.os
  bare : AllBare s.gens
  un : Un (frs outer) [] H0 H (virt L sc s₀).heap s.heap
  hok : HOk P w H s.heap
/-- an item is handed out -/
def YL (P : Program) (w : World) (outer : List Env) (H0 : Hp) (sc : Shared) (L a : Addr) (g : Nat) : Protocol := fun n s₀ v s kap =>
  (∃ x H, RelV x v ∧ LeftG P w outer H0 sc L s₀ H s) ∧ s.heap.IsGen a g ∧ s.heap.NoLimit ∧ ∀ s', SleptL L s s' → kap (.send .none) s'
/-- the end -/
def RL (P : Program) (w : World) (outer : List Env) (H0 : Hp) (sc : Shared) (L : Addr) (Q : Hp → Prop) : GenEnd := fun _ s₀ r s =>
  ((r = .ok (.ret .none) ∨ r = .ok .next) ∧ ∃ H, LeftG P w outer H0 sc L s₀ H s ∧ Q H) ∨ ∃ e, r = .error e ∧ False
/-- the reading of such a loop whose body ends in a yield: m turns are left -/
def tGF (wi : TI) (g : TG) (t1 t2 t3 : TS) (te : TE) (Qe : Hp → Prop) : St → Hp → Nat → Prop := fun σ H N => wi σ H fun J H1 => ∃ W : Nat → Nat → St → Hp → Prop, W 0 N σ H1 ∧ ∀ i m σ H, W i m σ H →
  (J.stop i H ∧ Qe H) ∨ (J.go i H ∧ ∃ m', m = m' + 1 ∧ ∀ x H', J.yld i H x H' → g x σ H' fun σ2 H2 =>
    t1 { nx := fun σ3 H3 => t2 { nx := fun σ4 H4 => t3 { nx := fun σ5 H5 => te σ5 H5 fun _ H6 => W (i + 1) m' σ5 H6, rt := fun _ _ => False } σ4 H4, rt := fun _ _ => False } σ3 H3, rt := fun _ _ => False } σ2 H2)
section
variable {X : Cx} {L a : Addr} {gn : Nat} {Q : Hp → Prop} {A : Around} {tg iter e : Expr} {st1 st2 st3 : Stmt} {pos yp ypos : Pos} {wi : TI} {g : TG} {t1 t2 t3 : TS} {te : TE} {fs : List Frame} {c : Code} {K : Flow → Sem PySem.Fin} {J : Value → Sem PySem.Fin} {gd : Bool → Bool} {lv : List Value → List Value}
theorem Inv.leftG {s₀ s : Shared} {pins : List (Addr × Obj)} {σ : St} {H : Hp} (hex : X.ex = []) (I : Inv (reb X L s₀) pins σ H s) : LeftG X.prog X.w X.outer X.H_0 X.s_0 L s₀ H s :=
  ⟨I.os, I.bare, by have := I.base; rw [show (reb X L s₀).ex = [] from hex] at this; exact this, I.hok⟩
/-- THE LOOP -/
theorem seg_gfor (ok : X.Ok) (F : FrL X L) (hex : X.ex = []) (hxe : X.xe = fun _ _ => False) (hcalm : X.calm = true) (hgen : ∀ s₀ pins σ H s, Inv (reb X L s₀) pins σ H s → s.heap.IsGen a gn)
    (hi : ∀ s, PI (reb X L s) tg iter wi) (hg : ∀ s, PG (reb X L s) tg g) (h1 : ∀ s, PS (reb X L s) st1 t1) (h2 : ∀ s, PS (reb X L s) st2 t2) (h3 : ∀ s, PS (reb X L s) st3 t3) (he : ∀ s, PE (reb X L s) e te)
    (hov : A.over c fs = X.A) (hsp : splitAtGen fs = none) (hgu : fs.any Frame.guarded = false) (hgd : gd false = false)
    (k : ∀ n s₀ s σ H, Inv (reb X L s₀) [] σ H s → Q H → Seg (model X.prog X.w) A (RL X.prog X.w X.outer X.H_0 X.s_0 L Q) (YL X.prog X.w X.outer X.H_0 X.s_0 L a gn) n s₀ c (K .next) fs s)
    {N : Nat} {σ : St} {H : Hp} {s₀ s : Shared} (I : Inv (reb X L s₀) [] σ H s) (ht : tGF wi g t1 t2 t3 te Q σ H N)
    (hs : ∀ x, foldedSetIterable iter X.env x = pure x := by intro _; rfl) (hco : X.env.scope.isCoroutine = false := by rfl) (hin : interactive X.env = false := by rfl) :
    Seg (model X.prog X.w) A (RL X.prog X.w X.outer X.H_0 X.s_0 L Q) (YL X.prog X.w X.outer X.H_0 X.s_0 L a gn) N s₀ c ((exec (.For tg iter [st1, st2, st3, .Expr (.Yield (some e) yp) ypos] [] pos) X.env).wrap K J gd lv) fs s := by
  refine seg_For ?_ hs
  rw [hov]
  have noX : ∀ {x : Value} {s : Shared}, X.xe x s → False := fun {x s} z => by rw [hxe] at z; exact z
  refine wpAny_mono ((hi s₀).run [] s σ H _ I ht) (fun v s1 q1 => wpAny_mono q1 (fun itv s2 q2 => ?_) fun _ _ z => noX z) fun _ _ z => noX z
  obtain ⟨it, fp, tn, JJ, H2, ei, I2, T, tn2, f2, W, w0, turn⟩ := q2
  subst ei
  intro p
  have stat : ∀ {s' : Shared} {H' : Hp}, (∀ b ∈ fp, H' b = none) → ∀ b ∈ fp, FpOk (reb X L s') [] H' b := fun {s' H'} hn b hb => by
    obtain ⟨_, y1, y2, y3, y4, y5⟩ := f2 b hb
    refine ⟨hn b hb, y1, y2, ?_, y4, y5⟩
    rcases y3 with z | z
    · exact .inl z
    · refine .inr ?_
      have z' : (virt L X.s_0 s₀).heap.objs.size ≤ b := z
      show (virt L X.s_0 s').heap.objs.size ≤ b
      rw [virt_sz] at z' ⊢
      exact z'
  have neL : ∀ b ∈ fp, b ≠ L := fun b hb z => (f2 b hb).2.2.1 (by rw [z]; exact F.fs)
  have gov : A.over (.forLoop tg (.ref it) [st1, st2, st3, .Expr (.Yield (some e) yp) ypos] [] X.env) (.ret (backK X.env K J gd lv) none (gd false) (lv []) c p [] :: fs) = X.A := (over_loop rfl rfl).trans hov
  have spl : splitAtGen (.ret (backK X.env K J gd lv) none (gd false) (lv []) c p [] :: fs) = none := by
    show (splitAtGen fs).map _ = none
    rw [hsp]; rfl
  have grd : (.ret (backK X.env K J gd lv) none (gd false) (lv []) c p [] :: fs : List Frame).any Frame.guarded = false := by
    show (gd false || fs.any Frame.guarded) = false
    rw [hgd, hgu]; rfl
  have loop : ∀ (m i : Nat) (σ : St) (H : Hp) (s₀ s : Shared), W i m σ H → Inv (reb X L s₀) [] σ H s → tn i s.heap → (∀ b ∈ fp, H b = none) →
      Seg (model X.prog X.w) A (RL X.prog X.w X.outer X.H_0 X.s_0 L Q) (YL X.prog X.w X.outer X.H_0 X.s_0 L a gn) m s₀ (.forLoop tg (.ref it) [st1, st2, st3, .Expr (.Yield (some e) yp) ypos] [] X.env)
        ((model X.prog X.w).den (.forLoop tg (.ref it) [st1, st2, st3, .Expr (.Yield (some e) yp) ypos] [] X.env)) (.ret (backK X.env K J gd lv) none (gd false) (lv []) c p [] :: fs) s := by
    intro m
    induction m with
    | zero =>
      intro i σ H s₀ s wv I tni hn
      rcases turn i 0 σ H wv with ⟨stop, q⟩ | ⟨_, m', em, _⟩
      · refine seg_forLoop ?_
        rw [gov]
        refine wpAny_mono (T.done (reb X L s₀) rfl rfl rfl hcalm i [] s σ H (fun _ _ => False) I (stat hn) tni stop) (fun r s4 hr => ?_) fun _ _ z => z
        obtain ⟨er, I4⟩ := hr
        subst er
        exact seg_leaf (.ok .next) (k 0 s₀ s4 σ H I4 q)
      · cases em
    | succ m ih =>
      intro i σ H s₀ s wv I tni hn
      rcases turn i (m + 1) σ H wv with ⟨stop, q⟩ | ⟨go, m', em, step⟩
      · refine seg_forLoop ?_
        rw [gov]
        refine wpAny_mono (T.done (reb X L s₀) rfl rfl rfl hcalm i [] s σ H (fun _ _ => False) I (stat hn) tni stop) (fun r s4 hr => ?_) fun _ _ z => z
        obtain ⟨er, I4⟩ := hr
        subst er
        exact seg_leaf (.ok .next) (k (m + 1) s₀ s4 σ H I4 q)
      · obtain rfl : m = m' := by omega
        refine seg_forLoop ?_
        rw [gov]
        refine wpAny_mono (T.item (reb X L s₀) rfl rfl rfl hcalm i [] s σ H (fun _ _ => False) I (stat hn) tni go) (fun r s4 hr => ?_) fun _ _ z => z
        obtain ⟨u, er, h4⟩ := hr
        subst er
        refine wpAny_mono h4 (fun _ s5 h5 => ?_) fun _ _ z => z
        obtain ⟨x, H5, I5, r5, y5, tn5, fr5⟩ := h5
        have P5 := I5.pinned (stat fr5) (T.obj _ _ tn5)
        refine wpAny_mono ((hg s₀).run _ s5 σ H5 x u _ P5 r5 (step x H5 y5)) (fun _ s6 h6 => ?_) fun _ _ z => noX z
        obtain ⟨σ6, H6, I6, q6⟩ := h6
        refine seg_execs_cons ?_
        refine seg_ps (X := reb X L s₀) (h1 s₀) rfl rfl hxe gov I6 q6 fun s7 σ7 H7 I7 q7 => ?_
        refine seg_execs_cons ?_
        refine seg_ps (X := reb X L s₀) (h2 s₀) rfl rfl hxe gov I7 q7 fun s8 σ8 H8 I8 q8 => ?_
        refine seg_execs_cons ?_
        refine seg_ps (X := reb X L s₀) (h3 s₀) rfl rfl hxe gov I8 q8 fun s9 σ9 H9 I9 q9 => ?_
        refine seg_execs_cons ?_
        refine seg_Expr_Yield spl rfl grd ?_ hco hin
        rw [gov]
        refine wpAny_mono ((he s₀).run _ s9 σ9 H9 _ I9 q9) (fun v s10 h10 => ?_) fun _ _ z => (noX z).elim
        obtain ⟨y, H10, I10, r10, q10⟩ := h10
        intro kap hk
        refine ⟨⟨y, H10, r10, Inv.leftG hex I10⟩, hgen _ _ _ _ _ I10, I10.nolimit, fun s' z => hk .none s' ?_⟩
        have J := Inv.rebase F ok I10 z.os z.bare z.keep z.at_
        have tn10 : tn (i + 1) s'.heap := T.keep _ _ _ tn5 fun b hb o e => z.keep b o (neL b hb) (I10.pin (b, o) (List.mem_append_right _ (List.mem_append_right _ (mem_pinsAt hb e)))).1
        refine seg_again rfl (ih (i + 1) σ9 H10 s' s' q10 J.unpinned tn10 fun b hb => ?_)
        obtain ⟨o, e, d⟩ := T.obj _ _ tn5 b hb
        exact (I10.pin (b, o) (List.mem_append_right _ (List.mem_append_right _ (mem_pinsAt hb e)))).2.1
  exact loop N 0 σ H2 s₀ s2 w0 I2 tn2 fun b hb => (f2 b hb).1
end
end Wm
/-! ## GfG3 -/
set_option Elab.async false
set_option linter.all false
set_option maxRecDepth 100000
set_option maxHeartbeats 4000000
/-! A generator def that is walked by a for loop: its promise by its body; the loop. -/
namespace Wm
open PySem PySem.Spec PyProof.Rows L2 GenW
/-- what a call gives: a generator that has not begun; N: as many items come -/
def GMadeL (P : Program) (w : World) (k : Nat) (outer : List Env) (H : Hp) (sc : Shared) (N : Nat) (Q : Hp → Prop) (u : Value) (s' : Shared) : Prop :=
  ∃ (a : Addr) (g : Nat) (c : Code), u = .ref a ∧ sc.heap.objs.size ≤ a ∧ a < s'.heap.objs.size ∧ s'.heap.IsGen a g ∧ s'.gens[g]? = some (.fresh c) ∧ s'.os = sc.os ∧ AllBare s'.gens ∧ s'.heap.NoLimit ∧ (∀ b o, sc.heap.get? b = some o → s'.heap.get? b = some o) ∧
    ∀ (A : Around) (L : Addr) (s2 : Shared), Room k A → A.frames = some outer → L ∈ frs outer → SleptL L s' s2 →
      Seg (model P w) A (RL P w outer H sc L Q) (YL P w outer H sc L a g) N s2 c ((model P w).den c) [] s2
abbrev SpN := List V → Hp → Nat → (Hp → Prop) → Prop
structure GFnL (P : Program) (w : World) (K : PySem.W.Frag) (mg : Str → Option Value) (base : Heap) (k : Nat) (f : Addr) (fd : FuncData) (ps : List Str) (sp : SpN) : Prop where
  len : ∀ vs H N Q, sp vs H N Q → vs.length = ps.length
  run : ∀ (A : Around) (outer : List Env) (s : Shared) (H : Hp) (args : Args) (us : List Value) (vs : List V) (N : Nat) (Q : Hp → Prop), Room k A → Env0 P w K mg base A outer s H → BindsTo s fd args (ps.zip us) → Vals vs us → sp vs H N Q →
    codeAny (model P w) A (.call (.ref f) args) (fun r s' => match r with | .ok (.ret u) => GMadeL P w k outer H s N Q u s' | _ => False) s
/-- the context of such a def's body: nothing is raised in it -/
abbrev gcx (P : Program) (w : World) (K : PySem.W.Frag) (mg : Str → Option Value) (base : Heap) (N : List Str) (qual : Str) (scope : Scope) (f : Addr) (cd : Value) (A : Around) (outer : List Env) (s : Shared) (H : Hp) (pn : List (Addr × Obj)) : Cx :=
  { gcxOf P w K mg base N qual scope f cd A outer s H (fun _ _ _ => False) pn with xe := fun _ _ => False }
theorem gfnL_of {P : Program} {w : World} {K : PySem.W.Frag} {mg : Str → Option Value} {base : Heap} {k : Nat} {f : Addr} {x qual : Str} {params : Arguments} {scope : Scope} {dvs : List V} {kws : List (Str × V)} {fd : FuncData} {N ps : List Str} {sp : SpN} {tg iter e : Expr} {st1 st2 st3 : Stmt} {yp ypos pos : Pos}
    (FD : FunD K x qual params [.For tg iter [st1, st2, st3, .Expr (.Yield (some e) yp) ypos] [] pos] scope dvs kws f fd) (S : GScope N ps scope) (len : ∀ vs H n Q, sp vs H n Q → vs.length = ps.length) (hcells : ∀ n, cellsFrom n scope.names [] = [])
    (hbody : ∀ (cdv : Value) (A : Around) (outer : List Env) (s : Shared) (H : Hp) (vs : List V) (n : Nat) (Q : Hp → Prop) (pn : List (Addr × Obj)), Room k (A.deeper (envOfC qual scope s.heap.objs.size f cdv)) → sp vs H n Q →
      ∃ (wi : TI) (g : TG) (t1 t2 t3 : TS) (te : TE), tGF wi g t1 t2 t3 te Q (start N vs) H n ∧ ∀ (L : Addr) (s2 : Shared),
        PI (reb (gcx P w K mg base N qual scope f cdv A outer s H pn) L s2) tg iter wi ∧ PG (reb (gcx P w K mg base N qual scope f cdv A outer s H pn) L s2) tg g ∧ PS (reb (gcx P w K mg base N qual scope f cdv A outer s H pn) L s2) st1 t1 ∧
        PS (reb (gcx P w K mg base N qual scope f cdv A outer s H pn) L s2) st2 t2 ∧ PS (reb (gcx P w K mg base N qual scope f cdv A outer s H pn) L s2) st3 t3 ∧ PE (reb (gcx P w K mg base N qual scope f cdv A outer s H pn) L s2) e te)
    (hs : ∀ (env : Env) x, env.scope = scope → foldedSetIterable iter env x = pure x) (hin : ∀ (env : Env), env.scope = scope → interactive env = false) :
    GFnL P w K mg base (k + 1) f fd ps sp := by
  obtain ⟨oc, od, dV, kV, doc, pm, an, cdv, ct, osl, rfl, lk, hcd, _, _⟩ := FD.ex
  refine ⟨len, fun A outer s H args us vs n Q hr e0 hb r hsp => ?_⟩
  have hl := len _ _ _ _ hsp
  have KX : K.In s.heap := e0.mod.kin.keeps fun b o e => (e0.bs b o e).1
  have lim : s.heap.NoLimit := e0.mod.nolimit.keeps fun b o e => (e0.bs b o e).1
  have hkind : ∀ y ∈ ps.zip us, scope.names.lookup y.1 = some .local ∨ (scope.names.lookup y.1 = some .cell ∧ ((cellsFrom (s.heap.objs.size + 1) scope.names []).lookup y.1).isSome = true) := fun ⟨n, v⟩ hy => by
    rcases S.par n (List.of_mem_zip hy).1 with q | q
    · exact .inl q
    · exact .inr ⟨q, PySem.W.cellsFrom_some _ _ _ (.inl q)⟩
  refine codeAny_call_generator hr.depth (KX _ _ lk) rfl S.co S.gen rfl (PySem.W.codeRec_of KX hcd) (hb _ _ _ _ ?_)
  refine wpAny_newFunctionEnv_cells S.kind hkind fun env he s1 x => ?_
  subst he
  have lim1 : s1.heap.NoLimit := lim.keeps x.toInCall.keep
  refine ⟨lim1, ?_⟩
  obtain ⟨h1, tk, es1, hk1⟩ := x.done
  have os1 : s1.os = s.os := by rw [es1]
  have gen1 : s1.gens = s.gens := by rw [es1]
  have lt1 : s.heap.objs.size < s1.heap.objs.size := x.toInCall.ns.lt
  have sz1 : s.heap.objs.size ≤ s1.heap.objs.size := Nat.le_of_lt lt1
  have kp1 : ∀ b o, s.heap.get? b = some o → s1.heap.get? b = some o := x.toInCall.keep
  have main : ∀ (go : Obj) (nm qn : Value) (tk2 : Nat), go.cls = .type "generator" → go.data = .fields #[.int s1.gens.size 0, nm, qn] → go.slots = #[] → (∀ h : Heap, (h.push go).get? h.objs.size = some go) →
      GMadeL P w (k + 1) outer H s n Q (.ref s1.heap.objs.size) { s1 with gens := s1.gens.push (.fresh (.func [.For tg iter [st1, st2, st3, .Expr (.Yield (some e) yp) ypos] [] pos] (envOfC qual scope s.heap.objs.size f cdv))), toks := tk2, heap := s1.heap.push go } := by
    intro go nm qn tk2 hgc hgd0 hgs hgp
    have hgen : ∀ h : Heap, h.get? s1.heap.objs.size = some go → h.IsGen s1.heap.objs.size s1.gens.size := fun h e => ⟨go, nm, qn, e, hgc, hgd0, hgs⟩
    have hpushed : (s1.heap.push go).get? s1.heap.objs.size = some go := hgp _
    refine ⟨s1.heap.objs.size, s1.gens.size, _, rfl, sz1, ?_, hgen _ hpushed, Array.getElem?_push_size .., os1, ?_, lim1.keeps fun b o e => Heap.get?_push_of_some _ e, fun b o e => Heap.get?_push_of_some _ (kp1 b o e), ?_⟩
    · show _ < (s1.heap.push _).objs.size
      rw [Heap.size_push]; exact Nat.lt_succ_self _
    · exact AllBare.push (by rw [gen1]; exact e0.bare) rfl
    intro Aw L s2 hrw hfr hL sl
    have e0w : Env0 P w K mg base Aw outer s H := ⟨hfr, e0.mod, e0.bs, e0.bsz, e0.funs, e0.frf, e0.hok, e0.bare⟩
    obtain ⟨wi, g, t1, t2, t3, te, ht, hR⟩ := hbody cdv Aw outer s H vs n Q [(s1.heap.objs.size, go)] (hrw.deeper _) hsp
    have I1 : Inv (gcxOf P w K mg base N qual scope f cdv Aw outer s H (fun _ _ _ => False) []) [] (start N vs) H s1 := inv_startG S hrw.hd e0w hl r x
    have hgd : ∀ v, go.data ≠ .cell v := fun v q => by rw [hgd0] at q; cases q
    have y1 : H s1.heap.objs.size = none := I1.hok.fresh (Nat.le_refl _)
    have y2 : s1.heap.objs.size ≠ s.heap.objs.size := Nat.ne_of_gt lt1
    have y3 : s1.heap.objs.size ∉ frs outer := I1.nofs (Nat.le_refl _)
    -- the state at the call's end
    have I2 : Inv (gcxOf P w K mg base N qual scope f cdv Aw outer s H (fun _ _ _ => False) []) [] (start N vs) H { s1 with gens := s1.gens.push (.fresh (.func [.For tg iter [st1, st2, st3, .Expr (.Yield (some e) yp) ypos] [] pos] (envOfC qual scope s.heap.objs.size f cdv))), toks := tk2, heap := s1.heap.push go } :=
      I1.call' (ch := []) rfl (Un.kept fun b o e => Heap.get?_push_of_some _ e) (I1.hok.kept fun b o e => Heap.get?_push_of_some _ e) (AllBare.push (by rw [gen1]; exact e0.bare) rfl) fun b z => by simp at z
    have I3 : Inv (gcx P w K mg base N qual scope f cdv Aw outer s H [(s1.heap.objs.size, go)]) [] (start N vs) H { s1 with gens := s1.gens.push (.fresh (.func [.For tg iter [st1, st2, st3, .Expr (.Yield (some e) yp) ypos] [] pos] (envOfC qual scope s.heap.objs.size f cdv))), toks := tk2, heap := s1.heap.push go } := by
      refine ⟨⟨I2.ok.mod, I2.ok.kind, I2.ok.glob, I2.ok.blt, I2.ok.above, I2.ok.inj, I2.ok.has, I2.ok.cab, I2.ok.hd, I2.ok.frames, I2.ok.stk, I2.ok.exf, I2.ok.bs, I2.ok.bsz, I2.ok.noex, I2.ok.exfs, I2.ok.funs, I2.ok.frf⟩, I2.os, I2.bare, I2.base, I2.loc, I2.cell, I2.free, I2.freeC, fun p hp => ?_, I2.hok, I2.len⟩
      have hp' : p ∈ [(s1.heap.objs.size, go)] := (List.mem_append.mp hp).elim id fun z => absurd z (by simp)
      rw [List.mem_singleton.mp hp']
      exact ⟨hpushed, y1, y2, y3, hgd⟩
    have oL : ∃ o, s.heap.get? L = some o ∧ NoRec o := (e0.funs.mem hL).2
    have FL : FrL (gcx P w K mg base N qual scope f cdv Aw outer s H [(s1.heap.objs.size, go)]) L := ⟨oL.imp fun o z => z.1, hL, fun y => by
      show (cellsFrom (s.heap.objs.size + 1) scope.names []).lookup y = none
      rw [hcells] <;> rfl⟩
    obtain ⟨oL1, eL1, nL1⟩ := oL
    have I4 := Inv.reb0 FL I3 ⟨oL1, Heap.get?_push_of_some _ (kp1 _ _ eL1), nL1⟩
    have I5 := Inv.rebase FL I3.ok I4 sl.os sl.bare sl.keep sl.at_
    refine seg_func ?_
    refine seg_execs_cons ?_
    refine seg_gfor (X := gcx P w K mg base N qual scope f cdv Aw outer s H [(s1.heap.objs.size, go)]) (J := fun e => (leaving (envOfC qual scope s.heap.objs.size f cdv) e).wrap (fun _ => .raise e) .raise id id) (gd := id) (lv := id) I3.ok FL rfl rfl rfl (fun s₀ pins σ H' s' I' => ?_) (fun s2 => (hR L s2).1) (fun s2 => (hR L s2).2.1) (fun s2 => (hR L s2).2.2.1) (fun s2 => (hR L s2).2.2.2.1) (fun s2 => (hR L s2).2.2.2.2.1) (fun s2 => (hR L s2).2.2.2.2.2) over_func rfl rfl rfl (fun n s₀ s' σ H' I' q => ?_) I5 ht (fun y => hs _ y rfl) S.co (hin _ rfl)
    · exact hgen _ (I'.pin (s1.heap.objs.size, go) (List.mem_append_left _ (List.mem_singleton.mpr rfl))).1
    · refine seg_execs_nil ?_
      exact seg_end (.ok (.ret .none)) (.inl ⟨.inl rfl, H', Inv.leftG rfl I', q⟩)
  exact main _ _ _ _ rfl rfl rfl fun h => Heap.get?_push_size _ rfl
end Wm
/-! ## GfG4 -/
set_option Elab.async false
set_option linter.all false
set_option maxRecDepth 100000
set_option maxHeartbeats 4000000
/-! for x in g(..): continue. -/
namespace Wm
open PySem PySem.Spec PyProof.Rows L2 GenW
section
variable {X : Cx} {pins : List (Addr × Obj)} {σ : St} {H : Hp} {s : Shared} {i : Nat} {x : Str} {v : V} {u : Value} {Q : Unit → Shared → Prop} {E : Value → Shared → Prop} {M : Model} {A : Around}
/-- a local name is stored, and what the state is then -/
theorem store_l (hc : ∀ x, X.env.cells.lookup x = none) (I : Inv X pins σ H s) (hN : X.N.Nodup) (hi : X.N[i]? = some x) (hk : X.env.kindOf x = some .local) (r : RelV v u)
    (h : ∀ h', Inv X pins (σ.set i (some v)) H { s with heap := h', toks := s.toks + 1 } → Heap.SameBut X.env.locals s.heap h' → Q () { s with heap := h', toks := s.toks + 1 }) : wpAny M A (storeName X.env x u) Q E s := by
  obtain ⟨m, hn, hl⟩ := id I.loc
  have hfree := I.free
  refine wpAny_storeName_local hk hn (fun h' hn' sb => h h' ?_ sb) (by rw [I.ok.kind]; rfl)
  have old : ∀ b o, X.s_0.heap.get? b = some o → h'.get? b = s.heap.get? b := fun b o q => sb.2 b (Nat.ne_of_lt (Nat.lt_of_lt_of_le (Heap.lt_size q) I.ok.above))
  have hlen : i < σ.length := by
    rw [I.len]
    exact (List.getElem?_eq_some_iff.mp hi).1
  have nt : ∀ b w, H b = some w → b ≠ X.env.locals := fun b w q z => by rw [z, hfree] at q; cases q
  refine ⟨I.ok, I.os, I.bare, ⟨fun b o q n hb hx => ?_, fun b o q n hb hx => ?_, I.base.free, fun b o q hx => ?_, I.base.tups, I.base.frzs, I.base.tbls⟩, ⟨_, hn', fun j y z e1 e2 e3 => ?_⟩, fun y c z => ?_, hfree, I.freeC, fun p hp => ?_, fun b w q => ?_, ?_⟩
  · show h'.get? b = some o
    rw [old b o q]
    exact I.base.keep b o q n hb hx
  · obtain ⟨sl, z⟩ := I.base.slot b o q n hb hx
    refine ⟨sl, ?_⟩
    show h'.get? b = _
    rw [old b o q]
    exact z
  · obtain ⟨o', z⟩ := I.base.there b o q hx
    refine ⟨o', ?_⟩
    show h'.get? b = _
    rw [old b o q]
    exact z
  · by_cases hj : j = i
    · subst hj
      have ey : x = y := Option.some.inj (hi.symm.trans e1)
      subst ey
      rw [List.getElem?_set_self hlen] at e2
      have ez : v = z := Option.some.inj (Option.some.inj e2)
      subst ez
      exact ⟨u, r, .inl ⟨hk, by simp⟩⟩
    · rw [List.getElem?_set_ne (Ne.symm hj)] at e2
      obtain ⟨u', r', l⟩ := hl j y z e1 e2 e3
      refine ⟨u', r', ?_⟩
      rcases l with ⟨k1, k2⟩ | ⟨_, c, z, _⟩
      · refine .inl ⟨k1, ?_⟩
        have ne : y ≠ x := fun q => hj (nodup_ix hN e1 (by rw [q]; exact hi))
        simp [ne, k2]
      · rw [hc] at z; cases z
  · rw [hc] at z; cases z
  · obtain ⟨e1, n1, ne, nf, d⟩ := I.pin p hp
    exact ⟨(sb.2 p.1 ne).trans e1, n1, ne, nf, d⟩
  · refine (I.hok b w q).stay (fun c o hc y => (sb.2 c ?_).trans y) (fun _ y => y) fun _ _ y => y
    rcases hc with y | y
    · rw [y]; exact nt b w q
    · exact nt c _ y
  · rw [List.length_set]; exact I.len
end
/-- an expression whose value is such a generator -/
structure PGenL (X : Cx) (k : Nat) (e : Expr) (tg : St → Hp → Nat → (Hp → Prop) → Prop) : Prop where
  run : ∀ (pins : List (Addr × Obj)) (s : Shared) (σ : St) (H : Hp) (N : Nat) (Q : Hp → Prop), Inv X pins σ H s → tg σ H N Q → wpAny (model X.prog X.w) X.A (eval e X.env)
    (fun u s' => ∃ H1 sc, Inv X pins σ H1 sc ∧ GMadeL X.prog X.w k X.stack H1 sc N Q u s') X.xe s
/-- f(e, ..) of such a def -/
theorem pgenL_call {X : Cx} {k : Nat} {f : Addr} {fd : FuncData} {ps : List Str} {sp : SpN} {x : Str} {p pos : Pos} {e : Expr} {es : List Expr} {t : TA} (F : GFnL X.prog X.w X.K X.mg X.base k f fd ps sp) (hr : Room k X.A) (hg : Gl X x) (hm : X.mg x = some (.ref f)) (hk : PySem.W.keepIn X.K (.ref f) = true) (hb : Binds X.K fd ps [])
    (ha : PA X (e :: es) t) (hdb : (x == ("__debug__" : Str)) = false := by decide) (he : starEach (e :: es) X.env = (false, eval e X.env) :: starEach es X.env := by rfl) (hpl : (backTo pos (starEach es X.env)).any (·.1) = false := by rfl) :
    PGenL X k (.Call (.Name x p) (e :: es) [] pos) (fun σ H N Q => t σ H fun vs H1 => sp vs H1 N Q) := by
  refine ⟨fun pins s σ H N Q I h => ?_⟩
  refine wpAny_Call_Name_kw (ld_glob I hg hm ?_ hdb)
  refine PySem.W.callWith_K (h₀ := X.base) I.ok.mod.kin hk (thn (ha.run pos pins s σ H _ I h) fun us s1 ⟨vs, H1, I1, r, q⟩ => ⟨I1.kIn, ?_⟩) he hpl
  have hl : us.length = ps.length := by rw [← r.length]; exact F.len _ _ _ _ q
  have b := hb s1 us I1.kIn (by rw [List.append_nil]; exact hl)
  rw [List.append_nil] at b
  refine wpAny_call (codeAny_mono (F.run X.A X.stack s1 H1 ⟨us, []⟩ us vs N Q hr I1.env0 b r q) fun r s' hq => ?_)
  cases r with
  | error e => exact False.elim hq
  | ok fl =>
    cases fl with
    | ret u => exact ⟨H1, s1, I1, hq⟩
    | next => exact False.elim hq
    | brk => exact False.elim hq
    | cont => exact False.elim hq
/-- the loop's reading: behind it the name holds the last item, or what it held -/
def tForG (i : Nat) (tg : St → Hp → Nat → (Hp → Prop) → Prop) : TS := fun D σ H => ∃ N, tg σ H N fun H' => ∀ σ' : St, (σ' = σ ∨ ∃ v, σ' = σ.set i (some v)) → D.nx σ' H'
theorem ps_forG {X : Cx} {k i : Nat} {x : Str} {iter : Expr} {px cp pos : Pos} {tg : St → Hp → Nat → (Hp → Prop) → Prop} (hp : PassesOwn (model X.prog X.w) X.A X.env X.xe) (hcalm : X.calm = true) (hc : ∀ x, X.env.cells.lookup x = none) (hst : X.stack = X.env :: X.outer) (hfr : X.env.frame = some X.env.locals) (hr : Room (k + 1) X.A)
    (hN : X.N.Nodup) (hi : X.N[i]? = some x) (hk : X.env.kindOf x = some .local) (h : PGenL X k iter tg) (hs : ∀ x, foldedSetIterable iter X.env x = pure x := by intro _; rfl) :
    PS X (.For (.Name x px) iter [.Continue cp] [] pos) (tForG i tg) := by
  refine ⟨fun pins s σ H D I ht => ?_⟩
  obtain ⟨N, ht⟩ := ht
  refine wpAny_For (thn (h.run pins s σ H N _ I ht) fun u s1 q1 => ?_) hs
  obtain ⟨H1, sc, I1, a, g, c, eu, ha1, ha2, hg, hgs, hos, hba, hlim, hkp, wake⟩ := q1
  subst eu
  refine wpAny_pyIter_gen hg ?_
  have okL : ∀ {s : Shared} {σ' : St} {H' : Hp}, Inv X pins σ' H' s → ∃ o, s.heap.get? X.env.locals = some o ∧ NoRec o := fun {s σ' H'} J => by
    obtain ⟨m, ⟨o, es, ep, e, d, _⟩, _⟩ := J.loc
    exact ⟨o, e, fun vs z => by rw [d] at z; cases z⟩
  have hLf : X.env.locals ∈ frs X.stack := by
    rw [hst]
    exact List.mem_filterMap.mpr ⟨X.env, List.mem_cons_self, hfr⟩
  have hh : X.A.handled = none := I.ok.hd hcalm
  have gone : ∀ {gs : GenState} {n : Nat} {r : Resume} {s : Shared} {Q : Hp → Prop}, gs.Goes (model X.prog X.w) X.A.in1 (RL X.prog X.w X.stack H1 sc X.env.locals Q) (YL X.prog X.w X.stack H1 sc X.env.locals a g) n r s →
      gs.Goes (model X.prog X.w) X.A.in1 (fun n s₀ r s => ((r = .ok (.ret .none) ∨ r = .ok .next) ∧ (∃ H, LeftG X.prog X.w X.stack H1 sc X.env.locals s₀ H s ∧ Q H)) ∨ ∃ e, r = .error e ∧ False) (YL X.prog X.w X.stack H1 sc X.env.locals a g) n r s := fun z => z
  refine codeAny_forLoop_any (fun n s' => ∃ σ' gs, (σ' = σ ∨ ∃ v, σ' = σ.set i (some v)) ∧ s'.gens[g]? = some gs ∧ gs.Goes (model X.prog X.w) X.A.in1 (RL X.prog X.w X.stack H1 sc X.env.locals fun H' => ∀ σ' : St, (σ' = σ ∨ ∃ v, σ' = σ.set i (some v)) → D.nx σ' H') (YL X.prog X.w X.stack H1 sc X.env.locals a g) n (.send .none) (s'.setGen g .running) ∧
    Inv X pins σ' H1 (virt X.env.locals sc s') ∧ s'.heap.IsGen a g ∧ s'.heap.NoLimit) ?_ N ?_
  · rintro n s2 ⟨σ2, gs, ag, hgs2, hgo, J, hg2, hl2⟩
    have hgl : g < s2.gens.size := (Array.getElem?_eq_some_iff.mp hgs2).1
    refine wpAny_passesOwn hp ?_
    refine wpAny_gsz (n := g + 1) hgl (next_genG (A := X.A) hh hl2 hr.depth hg2 hgs2 (gone hgo) (fun v s3 gs' hbare hv => ?_) (fun s3 hF h' hk' => ?_) fun e s3 z => z.elim)
    · obtain ⟨⟨y, H3, rv, LG⟩, hg3, hl3, hkap⟩ := hv
      intro hsz
      have hsz3 : g < s3.gens.size := by
        have q : (s3.setGen g gs').gens.size = s3.gens.size := setGen_size _ _ _
        have z : g + 1 ≤ (s3.setGen g gs').gens.size := hsz
        omega
      have J3 : Inv X pins σ2 H3 (s3.setGen g gs') := J.call' (ch := []) (show s3.os = sc.os from LG.os) LG.un LG.hok (allBare_setGen LG.bare hbare) fun b z => absurd z (by simp)
      show wpAny _ _ (letOwnedTupleGo (.Name x px) (.ref a) v) _ _ _
      refine wpAny_passesOwn hp (wpAny_pure ?_)
      refine wpAny_passesOwn hp (wpAny_assign_Name (store_l hc J3 hN hi hk rv fun h4 J4 sb => ?_))
      refine wpAny_passesOwn hp ?_
      refine wpAny_execs_cons (show wpAny _ _ (do standAt cp; pure Flow.cont) _ _ _ from wpAny_bind (wpAny_standAt (wpAny_pure ?_)))
      have sl : ∀ {gx : GenState}, gx.bare = true → SleptL X.env.locals s3 ({ s3.setGen g gs' with heap := h4, toks := (s3.setGen g gs').toks + 1 }.setGen g gx) := fun {gx} hb =>
        ⟨rfl, allBare_setGen (s := { s3.setGen g gs' with heap := h4, toks := (s3.setGen g gs').toks + 1 }) (allBare_setGen LG.bare hbare) hb, fun b o hb e => (sb.2 b hb).trans e, by obtain ⟨o, e, n⟩ := okL J4; exact ⟨o, e, n⟩⟩
      cases n with
      | zero => exact (hkap _ (sl (gx := .running) rfl)).elim
      | succ n =>
        have neL : a ≠ X.env.locals := by
          obtain ⟨o, nm, qn, ho, hcl, hd, _⟩ := hg3
          intro z
          obtain ⟨m, ⟨o', es, ep, e, d, _⟩, _⟩ := J3.loc
          have e' : s3.heap.get? X.env.locals = some o' := e
          rw [← z, ho] at e'
          cases e'
          rw [hd] at d
          cases d
        refine ⟨n, Nat.lt_succ_self n, σ2.set i (some y), gs', ?_, ?_, hkap _ (sl (gx := .running) rfl), ?_, ?_, ?_⟩
        · rcases ag with e | ⟨v', e⟩
          · exact .inr ⟨y, by rw [e]⟩
          · exact .inr ⟨y, by rw [e, List.set_set]⟩
        · exact setGen_at hsz3
        · exact Inv.virtual hc I1 J4
        · obtain ⟨o, nm, qn, ho, q⟩ := hg3
          exact ⟨o, nm, qn, (sb.2 a neL).trans ho, q⟩
        · exact J4.nolimit
    · obtain ⟨H3, LG, q⟩ := hF
      intro hsz
      refine wpAny_execs_nil ?_
      have J3 : Inv X pins σ2 H3 { s3.setGen g .finished with heap := h' } := J.call' (ch := []) (show s3.os = sc.os from LG.os) (LG.un.trans (Un.kept hk')) (LG.hok.kept hk') (allBare_setGen LG.bare rfl) fun b z => absurd z (by simp)
      exact ⟨σ2, H3, J3, q σ2 ag⟩
  · have eL : ∃ o, s1.heap.get? X.env.locals = some o ∧ NoRec o := by
      obtain ⟨o, e, n⟩ := okL I1
      exact ⟨o, hkp _ _ e, n⟩
    have sl1 : SleptL X.env.locals s1 (s1.setGen g .running) := ⟨rfl, allBare_setGen hba rfl, fun b o _ e => e, eL⟩
    refine ⟨σ, .fresh c, .inl rfl, hgs, ⟨rfl, wake X.A.in1 X.env.locals _ hr.in1 I1.ok.frames hLf sl1⟩, ?_, hg, hlim⟩
    have J1 : Inv X pins σ H1 s1 := I1.call' (ch := []) hos (Un.kept hkp) (I1.hok.kept hkp) hba fun b z => absurd z (by simp)
    exact Inv.virtual hc I1 J1
end Wm
/-! ## GfG5 -/
set_option Elab.async false
set_option linter.all false
set_option maxRecDepth 100000
set_option maxHeartbeats 4000000
/-! yield from a list. -/
namespace Wm
open PySem PySem.Spec PyProof.Rows L2 GenW
section
variable {prog : Program} {w : World} {A : Around} {E : Value → Shared → Prop} {s : Shared}
theorem special_lst_item {it l : Addr} {i : Nat} {items : Array Value} {x : Value} {Q : Option Value → Shared → Prop} (hi : s.heap.IsListIter it l i) (hl : s.heap.IsList l items) (hx : items[i]? = some x)
    (hQ : ∀ h', h'.IsListIter it l (i + 1) → Heap.SameBut it s.heap h' → Q (some x) { s with heap := h' }) : wpAny (model prog w) A (callSpecial? (.ref it) "__next__") Q E s := by
  obtain ⟨oi, e1, ec, e2⟩ := id hi
  obtain ⟨ol, l1, _, nl, l2⟩ := hl
  refine wpAny_callSpecial?_slot (name := Str.ofString "__next__") hi.typeIs slot_listiter_next (wpAny_call_entry slot_listiter_next hi.typeIs entry_listiter_next ?_ (args_listiter_next _))
  show wpAny _ _ (field (.ref it) 0 >>= _) _ _ s
  refine wpAny_bind (wpAny_field e1 e2 (x := .ref l) rfl ?_)
  show wpAny _ _ (if (Value.ref l == Value.none) = true then _ else _) _ _ s
  rw [if_neg (show ¬ ((Value.ref l == Value.none) = true) from Bool.false_ne_true)]
  show wpAny _ _ (field (.ref it) 1 >>= _) _ _ s
  refine wpAny_bind (wpAny_field e1 e2 (x := .int i 0) rfl ?_)
  show wpAny _ _ (seqItems? (.ref l) >>= _) _ _ s
  refine wpAny_bind (wpAny_seqItems l1 l2 ?_)
  simp only [Int.toNat_natCast, hx]
  refine wpAny_bind (wpAny_setField e1 e2 (by simp) (wpAny_pure ⟨x, rfl, hQ _ ?_ (Heap.SameBut.update ..)⟩))
  exact ⟨_, Heap.get?_update_self _ e1 (Obj.isFreed_of_fields (Obj.data_mapFields e2 _)), (Obj.cls_mapFields ..).trans ec, by
    rw [Obj.data_mapFields e2]; simp [rawInt]⟩
theorem special_lst_end {it l : Addr} {i : Nat} {items : Array Value} {Q : Option Value → Shared → Prop} (hw : A.handled = none) (hi : s.heap.IsListIter it l i) (hl : s.heap.IsList l items) (hx : items[i]? = none)
    (hE : ∀ e h', StopX e h' → Heap.ExtBut it s.heap h' → E e { s with heap := h' }) : wpAny (model prog w) A (callSpecial? (.ref it) "__next__") Q E s := by
  obtain ⟨oi, e1, ec, e2⟩ := id hi
  obtain ⟨ol, l1, _, nl, l2⟩ := hl
  refine wpAny_callSpecial?_slot (name := Str.ofString "__next__") hi.typeIs slot_listiter_next (wpAny_call_entry slot_listiter_next hi.typeIs entry_listiter_next ?_ (args_listiter_next _))
  show wpAny _ _ (field (.ref it) 0 >>= _) _ _ s
  refine wpAny_bind (wpAny_field e1 e2 (x := .ref l) rfl ?_)
  show wpAny _ _ (if (Value.ref l == Value.none) = true then _ else _) _ _ s
  rw [if_neg (show ¬ ((Value.ref l == Value.none) = true) from Bool.false_ne_true)]
  show wpAny _ _ (field (.ref it) 1 >>= _) _ _ s
  refine wpAny_bind (wpAny_field e1 e2 (x := .int i 0) rfl ?_)
  show wpAny _ _ (seqItems? (.ref l) >>= _) _ _ s
  refine wpAny_bind (wpAny_seqItems l1 l2 ?_)
  simp only [Int.toNat_natCast, hx]
  refine wpAny_bind (wpAny_rule (wpAny_bind (wpAny_setField e1 e2 (by simp) ?_)))
  have sb := Heap.SameBut.update s.heap it (Obj.mapFields (·.setIfInBounds 0 Value.none))
  refine stop_warm (s := { s with heap := s.heap.update it (Obj.mapFields (·.setIfInBounds 0 Value.none)) }) (.inl hw) fun a h' ob vs k ha hc hd h5 => ?_
  exact hE _ _ ⟨a, ob, vs, rfl, ha, hc, hd, h5⟩ fun b o hb q => k b o ((sb.2 b hb).trans q)
end
section
variable {X : Cx} {e : Expr} {te : TE}
def tYfLst (te : TE) : TYf := fun σ H Q => te σ H fun x H1 => ∃ a xs, x = .ref a ∧ H1 a = some (.lst xs) ∧ Q xs H1
theorem close_lst : typeLookup (.type "list_iterator") "close" = pure none := by rw [typeLookup_type, builtinLookup_eq_fast]; kernel_rfl
theorem yf_lst (he : PE X e te) : YfE X e (tYfLst te) := by
  refine ⟨fun pins s σ H Q I h => ?_⟩
  refine thn (he.run pins s σ H _ I h) fun v s1 ⟨x, H1, I1, r1, a, xs, ex, ha, hq⟩ => ?_
  subst ex
  obtain rfl : v = Value.ref a := r1
  obtain ⟨hlen, its, n, rits, hl⟩ := I1.hok a _ ha
  have isl : ∀ {h : Heap}, h.get? a = some { cls := .type "list", data := .seq its.toArray n } → h.IsList a its.toArray := fun {h} z => ⟨_, z, rfl, n, rfl⟩
  refine ⟨"list", ⟨_, hl, rfl⟩, by decide, wpAny_pyIter_list (isl hl) ?_⟩
  have ksz : ∀ b o, s1.heap.get? b = some o → b ≠ s1.heap.objs.size := fun b o e => Nat.ne_of_lt (Heap.lt_size e)
  have ani : a ≠ s1.heap.objs.size := ksz a _ hl
  have kp : ∀ b o, s1.heap.get? b = some o → (s1.heap.push { cls := .type "list_iterator", data := .fields #[.ref a, .int 0 0] }).get? b = some o := fun b o e => Heap.get?_push_of_some _ e
  refine ⟨s1.heap.objs.size, H1, xs, fun j h => h.IsListIter s1.heap.objs.size a j ∧ h.get? a = some { cls := .type "list", data := .seq its.toArray n }, rfl, I1.kept (t' := s1.toks) kp, .inr I1.sz, Nat.ne_of_gt I1.lt, fun y c hy => ?_, I1.hok.fresh (Nat.le_refl _), fun p hp => ?_,
    ⟨⟨_, Heap.get?_push_size _ rfl, rfl, rfl⟩, kp _ _ hl⟩, ⟨⟨"list_iterator", fun j h q => ?_, close_lst, by decide⟩, fun j h h' q hk => ?_, fun A' j x s2 Q' E' hA hx q hQ => ?_, fun A' s2 Q' E' hA q hE => ?_⟩, hq⟩
  · obtain ⟨v, o, ho, _⟩ := I1.cell y c hy
    exact ksz c o ho
  · exact ksz p.1 _ (I1.pin p hp).1
  · obtain ⟨⟨o, ho, hc, _⟩, _⟩ := q
    exact ⟨o, ho, hc⟩
  · obtain ⟨⟨o, ho, r⟩, ho2⟩ := q
    exact ⟨⟨o, hk _ o (.inl rfl) ho, r⟩, hk _ _ (.inr (by rw [ha]; exact fun z => by cases z)) ho2⟩
  · obtain ⟨q1, q2⟩ := q
    obtain ⟨u, hu, ru⟩ := rits.get hx
    exact special_lst_item q1 (isl q2) (x := u) (by simpa using hu) fun h' q1' sb => hQ u h' s2.toks ru ⟨q1', (sb.2 a ani).trans q2⟩ fun b o hb eb => (sb.2 b hb).trans eb
  · obtain ⟨q1, q2⟩ := q
    have hnone : its.toArray[xs.length]? = none := by
      have e := rits.length
      have e2 : its[xs.length]? = none := List.getElem?_eq_none_iff.mpr (by omega)
      simpa using e2
    exact special_lst_end hA q1 (isl q2) hnone fun e h' hS hk => hE e h' s2.toks hS fun b o hb eb => hk b o hb eb
end
end Wm
/-! ## GfL -/
set_option Elab.async false
set_option linter.all false
set_option maxRecDepth 100000
set_option maxHeartbeats 4000000
/-! sorted(runs, key=lambda x: int(x[0])), in either case. -/
namespace Wm
open PySem PySem.Spec PyProof.Rows L2 LamX
/-- the lambda's own text -/
abbrev lArgs (p : Pos) : Arguments := { posonlyargs := [], args := [{ arg := "x", annotation := none, pos := p : PySem.Arg }], vararg := none, kwonlyargs := [], kw_defaults := [], kwarg := none, defaults := [] }
abbrev lBody (p1 p2 p3 p4 p5 : Pos) : Expr := .Call (.Name "int" p1) [.Subscript (.Name "x" p2) (.Constant (.int 0) 0 p3) p4] [] p5
abbrev lScope : Scope := { kind := .function, names := [("x", .local), ("int", .globalImplicit)], isGenerator := false, isCoroutine := false, more := [] }
section
variable {prog : Program} {w : World} {A : Around} {s : Shared} {mg mb : Str → Option Value}
/-- a call of it -/
theorem lam_key {qual : Str} {p p1 p2 p3 p4 p5 : Pos} {pm ctv : Value} {f c' t : Addr} {items : Array Value} {i : Int} {tk : Tok} (ho : s.heap.get? f = some (PySem.W.kla_obj "<lambda>" qual (lArgs p) (lBody p1 p2 p3 p4 p5) lScope [] pm c' ctv)) (hcd : s.heap.CodeRec (.ref c') qual)
    (hroom : A.depth < recursionLimit) (lim : s.heap.NoLimit) (hg : s.heap.Ns mainGlobals mg) (hi : mg "int" = none) (hb : s.heap.Ns builtinsNs mb) (hbi : mb "int" = some (.type "int")) (ht : IsTup s.heap t items) (h0 : items[0]? = some (.int i tk)) :
    wpAny (model prog w) A (call (.ref f) [.ref t]) (PySem.W.KeyPure (.int i) s) (fun _ _ => False) s := by
  refine wpAny_call ?_
  refine PySem.W.kla_callFunE hroom ho rfl rfl rfl rfl hcd ?_
  have hbind : bindArgs (PySem.W.kla_fn "<lambda>" qual (lArgs p) (lBody p1 p2 p3 p4 p5) lScope [] pm (.ref c') ctv) ⟨[.ref t], []⟩ = pure ((["x"] : List Str).zip [Value.ref t]) := rfl
  rw [hbind]
  refine wpAny_pure ?_
  refine wpAny_newFunctionEnv (fun x hx => by
    rcases List.mem_cons.mp hx with e | e
    · rw [e]; decide
    · rw [List.mem_singleton.mp e]; decide) (fun x hx => by
    rw [List.mem_singleton.mp hx]
    rfl) (fun h1 hns hsb => ⟨lim.fresh _ hsb, ?_⟩) rfl
  have kp : ∀ b o, s.heap.get? b = some o → h1.get? b = some o := fun b o e => hsb.extBut b o (Nat.ne_of_lt (Heap.lt_size e)) (Heap.get?_push_of_some _ e)
  refine PySem.W.kla_codeExpr ?_
  refine wpAny_Call_Name_kw (Calls.Name_function_global rfl rfl (Calls.loadGlobal_builtin (hg.keeps kp) hi (hb.keeps kp) hbi ?_) (by decide))
  refine Pv.callWith_type1 ?_ rfl rfl
  show wpAny _ _ (spliced ((false, eval (.Subscript (.Name "x" p2) (.Constant (.int 0) 0 p3) p4) _) :: [])) _ _ _
  refine Calls.spliced_cons ?_
  refine Subscript_ (wpAny_Name (wpAny_loadName_local rfl rfl hns (v := .ref t) rfl ?_) (by decide))
  refine wpAny_Constant_int ?_
  have ht1 : IsTup h1 t items := by
    obtain ⟨o, e, c⟩ := ht
    exact ⟨o, kp _ _ e, c⟩
  have hpos : 0 < items.size := (Array.getElem?_eq_some_iff.mp h0).1
  refine subscriptTail_builtinR (x := .int i tk) ht1.typeIs slot_tuple_getitem.lookup ?_ rfl
  refine getItem_tuple (j := 0) (Q := fun r s' => r = Value.int i tk ∧ _) ht1 (by decide) (by decide) (by simp [seqIndex?, hpos]) h0 ⟨rfl, ?_⟩
  refine Calls.spliced_nil ?_
  refine call_int_int ⟨h1, _, rfl, kp, ?_⟩
  exact .int i tk
end
/-- all but the tables is kept, and what the tables tell stays true -/
structure Ex (T : List (Addr × Str)) (H H' : Hp) : Prop where
  ext : ExtN H H'
  tab : Tabs T H → Tabs T H'
/-- the reading: ts: the tuples' addresses, their first items -/
def tSortK (K : PySem.W.Frag) (T : List (Addr × Str)) (te : TE) : TE := fun σ H Q => te σ H fun x H1 => ∃ (a : Addr) (ts : List (Addr × Int)), x = .ref a ∧ SqL K H1 a (ts.map fun p => V.ref p.1) ∧ (∀ p ∈ ts, ∃ z, SqT K H1 p.1 (.int p.2 :: z)) ∧ Tabs T H1 ∧
  ∀ H2 D, ExtN H1 H2 → Tabs T H2 → H2 D = none → Q (.ref D) (upd H2 D (.lst ((ts.mergeSort fun p q => decide (p.2 ≤ q.2)).map fun p => V.ref p.1)))
theorem vals_each {ts : List (Addr × Int)} {R : Value → Addr × Int → Prop} (hR : ∀ v p, R v p → v = .ref p.1) : ∀ {out : List Value} {ts : List (Addr × Int)}, PySem.W.EachIs R out ts → Vals (ts.map fun p => V.ref p.1) out
  | _, _, .nil => .nil
  | _, _, .cons r t => .cons (hR _ _ r) (vals_each (ts := ts) hR t)
theorem each_vals {R : Value → Addr × Int → Prop} : ∀ {its : List Value} {ts : List (Addr × Int)}, Vals (ts.map fun p => V.ref p.1) its → (∀ p ∈ ts, R (.ref p.1) p) → PySem.W.EachIs R its ts
  | _, [], r, _ => by
    cases r
    exact .nil
  | _, p :: ts, r, h => by
    cases r with
    | cons r1 r2 =>
      cases r1
      exact .cons (h p List.mem_cons_self) (each_vals r2 fun q hq => h q (List.mem_cons_of_mem _ hq))
theorem pe_sortK {X : Cx} {T : List (Addr × Str)} {c P : Addr} {x : Str} {e : Expr} {te : TE} {p p0 pk pos lpos q q1 q2 q3 q4 q5 : Pos} {k : Nat} (hr : L2H.RoomH k X.A) (TB : TabB X.base X.mg c P) (hcode : X.env.code = .ref c) (hm : (P, X.env.qual ++ "<lambda>") ∈ T) (hu : ∀ p ∈ T, p.1 = P → p.2 = X.env.qual ++ "<lambda>")
    (hg : Gl X "sorted") (hmg : X.mg "sorted" = none) (hint : X.mg "int" = none) (he : PE X e te) (hst : starEach [e] X.env = [(false, eval e X.env)] := by rfl) :
    PE X (.Call (.Name "sorted" p) [e] [{ arg := some "key", value := .Lambda (lArgs q) (lBody q1 q2 q3 q4 q5) lScope lpos, pos := pk }] pos) (tSortK X.K T te) := by
  refine ⟨fun pins s σ H Q I h => ?_⟩
  refine wpAny_Call_Name_kw (ld_blt I hg hmg boot_sorted ?_)
  have h1 : backTo pos (starEach [e] X.env) = [(false, eval e X.env)] := by rw [hst] <;> rfl
  refine PyProof.Rows.callWith_kw ?_ h1 (by rw [h1] <;> rfl) rfl rfl
  rw [h1]
  refine Calls.spliced_cons (thn (he.run pins s σ H _ I h) fun u s1 h1 => ?_)
  obtain ⟨y, H1, I1, r1, a, ts, ey, hq, hts, hT, hQ⟩ := h1
  subst ey
  obtain rfl : u = Value.ref a := r1
  refine Calls.spliced_nil ?_
  show wpAny _ _ (evalAll [(do let v ← eval (.Lambda (lArgs q) (lBody q1 q2 q3 q4 q5) lScope lpos) X.env; standAt pos; pure v)]) _ _ s1
  refine wpAny_evalAll_cons (wpAny_bind ?_)
  refine lam_make2 I1 TB hcode hm hu hT rfl (fun y hy => ?_) fun f c' pm ctv H2 s2 I2 eN T2 hf hfn hfr hco => ?_
  · rcases List.mem_cons.mp hy with z | z
    · rw [z]; intro w; cases w
    · rw [List.mem_singleton.mp z]; intro w; cases w
  refine wpAny_bind (wpAny_standAt (wpAny_pure (wpAny_evalAll_nil ?_)))
  have hq2 : SqL X.K H2 a (ts.map fun p => V.ref p.1) := by
    rcases hq with (z | ⟨o, z⟩) | z
    · exact .inl (.inl (eN _ _ z fun ps w => by cases w))
    · exact .inl (.inr ⟨o, eN _ _ z fun ps w => by cases w⟩)
    · exact .inr z
  have ht2 : ∀ p ∈ ts, ∃ z, SqT X.K H2 p.1 (.int p.2 :: z) := fun p hp => by
    obtain ⟨z, y⟩ := hts p hp
    refine ⟨z, ?_⟩
    rcases y with (w | ⟨o, w⟩) | w
    · exact .inl (.inl (eN _ _ w fun ps v => by cases v))
    · exact .inl (.inr ⟨o, eN _ _ w fun ps v => by cases v⟩)
    · exact .inr w
  obtain ⟨its, rv, pl, hz⟩ := I2.list hq2
  rw [List.length_map] at hz
  have hR : ∀ p ∈ ts, (Value.ref p.1 = Value.ref p.1 ∧ ∃ items tk, IsTup s2.heap p.1 items ∧ items[0]? = some (.int p.2 tk)) := fun p hp => by
    obtain ⟨z, y⟩ := ht2 p hp
    obtain ⟨it2, rv2, pt, _⟩ := I2.tuple y
    cases rv2 with
    | cons r1 r2 =>
      obtain ⟨tk, er⟩ := r1
      subst er
      exact ⟨rfl, _, tk, pt, rfl⟩
  have ea := each_vals (R := fun v p => v = Value.ref p.1 ∧ ∃ items tk, IsTup s2.heap p.1 items ∧ items[0]? = some (.int p.2 tk)) rv hR
  obtain ⟨⟨oc, vs, t, hoc, hdc, hvc⟩, _, _⟩ := I2.hok c' _ hco
  obtain ⟨mb, hmb, hbb⟩ := I2.mod.blt
  have kb : ∀ {h : Heap}, (∀ b o, s2.heap.get? b = some o → h.get? b = some o) → ∀ b o, X.base.get? b = some o → h.get? b = some o := fun {h} z b o e => z b o (I2.bk b o e)
  refine PySem.W.sorted_key_data (b := false) (fun p : Addr × Int => .int p.2) pl.isList ea (PySem.W.AllAlike.of fun _ _ => by simp [PySem.W.alike]) (PySem.W.Sortable.others fun _ => ⟨fun z => (by cases z), fun _ z => (by cases z)⟩) (by exact hz) (fun p _ => ?_) (ksk_s1 _ _) (fun _ => ksk_l1 _ _) (fun _ => ksk_t1 _ _)
    (fun v p hp _ h tk kp => ?_) fun out cc h' tk kp hn hD hl eo => ?_
  · have hd : (PyData.int p.2).depth = 0 := by simp [PyData.depth]
    have := hr.un
    rw [hd]
    omega
  · obtain ⟨ev, items, tk2, hti, h0⟩ := hp
    subst ev
    refine lam_key (mg := X.mg) (mb := mb) (kp _ _ hf) ⟨c', oc, vs, t, rfl, kp _ _ hoc, hdc, hvc⟩ ?_ (I2.nolimit.keeps kp) (I2.mod.glob.keeps (kb kp)) hint (hmb.keeps (kb kp)) ((hbb "int" (by decide)).trans PyProof.Rows.boot_int) ?_ h0
    · have := hr.dp
      show X.A.depth < _
      omega
    · obtain ⟨o, e, c⟩ := hti
      exact ⟨o, kp _ _ e, c⟩
  · rw [PySem.W.dataLe_int (fun p : Addr × Int => p.2)] at eo
    have rv2 : Vals ((ts.mergeSort fun p q => decide (p.2 ≤ q.2)).map fun p => V.ref p.1) out := vals_each (ts := ts) (fun _ _ z => z.1) eo
    have hD0 : s2.heap.objs.size ≤ s2.heap.objs.size + 1 := Nat.le_succ _
    have nD : H2 (s2.heap.objs.size + 1) = none := I2.hok.fresh hD0
    have J := I2.laid (t' := tk) (a := s2.heap.objs.size + 1) (o := .lst ((ts.mergeSort fun p q => decide (p.2 ≤ q.2)).map fun p => V.ref p.1)) kp hD0 ⟨by rw [List.length_map, List.length_mergeSort]; exact hz, out, cc, rv2, hD⟩
    exact ⟨.ref (s2.heap.objs.size + 1), _, J, rfl, hQ H2 _ eN T2 nD⟩
end Wm
/-! ## GfO -/
set_option Elab.async false
set_option linter.all false
set_option maxRecDepth 100000
set_option maxHeartbeats 4000000
/-! Own special methods: in, [], truth, -, a call; list(d.values()). -/
namespace Wm
open PySem PySem.Spec PyProof.Rows L2
/-- a def of the module under its name, called where nothing is handled -/
structure CalC (P : Program) (w : World) (K : PySem.W.Frag) (mg : Str → Option Value) (base : Heap) (k : Nat) (x : Str) (sp : Sp) : Prop where
  ex : ∃ (f : Addr) (fd : FuncData) (ps : List Str), FnOk P w K mg base CX0 k f fd ps sp ∧ mg x = some (.ref f) ∧ PySem.W.keepIn K (.ref f) = true ∧ Binds K fd ps []
structure MetC (P : Program) (w : World) (K : PySem.W.Frag) (mg : Str → Option Value) (base : Heap) (k : Nat) (C : Addr) (m : Str) (sp : Sp) : Prop where
  ex : ∃ (f : Addr) (fd : FuncData) (ps : List Str), Cls K C ∧ Meth K C m f ∧ FnOk P w K mg base CX0 k f fd ps sp ∧ Binds K fd ps []
structure MakC (P : Program) (w : World) (K : PySem.W.Frag) (mg : Str → Option Value) (base : Heap) (k : Nat) (x : Str) (C : Addr) (sp : Sp) : Prop where
  ex : ∃ (f : Addr) (fd : FuncData) (ps : List Str), Mk K C f ∧ FnOk P w K mg base CX0 k f fd ps sp ∧ mg x = some (.ref C) ∧ Binds K fd ps []
structure PrpC (P : Program) (w : World) (K : PySem.W.Frag) (mg : Str → Option Value) (base : Heap) (k : Nat) (C : Addr) (m : Str) (sp : Sp) : Prop where
  ex : ∃ (p f : Addr) (fd : FuncData) (ps : List Str), Cls K C ∧ PropOf K C m p f ∧ FnOk P w K mg base CX0 k f fd ps sp ∧ Binds K fd ps []
section
variable {P : Program} {w : World} {K : PySem.W.Frag} {mg : Str → Option Value} {base : Heap} {k : Nat} {x m : Str} {C : Addr} {sp : Sp}
theorem CalW.c (h : CalW P w K mg base k x sp) : CalC P w K mg base k x sp := by
  obtain ⟨f, fd, ps, F, r⟩ := h.ex
  exact ⟨f, fd, ps, F.ok, r⟩
theorem MetW.c (h : MetW P w K mg base k C m sp) : MetC P w K mg base k C m sp := by
  obtain ⟨f, fd, ps, a, b, F, r⟩ := h.ex
  exact ⟨f, fd, ps, a, b, F.ok, r⟩
theorem MakW.c (h : MakW P w K mg base k x C sp) : MakC P w K mg base k x C sp := by
  obtain ⟨f, fd, ps, a, F, r⟩ := h.ex
  exact ⟨f, fd, ps, a, F.ok, r⟩
end
/-- a class's special method -/
structure SpcC (P : Program) (w : World) (K : PySem.W.Frag) (mg : Str → Option Value) (base : Heap) (k : Nat) (C : Addr) (m : Str) (sp : Sp) : Prop where
  ex : ∃ (f : Addr) (fd : FuncData) (ps : List Str), PySem.W.findIn K (.ref C) m = some (some (.ref f)) ∧ PySem.W.isFn K (.ref f) = true ∧ PySem.W.fnIn K f = true ∧ FnOk P w K mg base CX0 k f fd ps sp ∧ Binds K fd ps []
structure SpcW (P : Program) (w : World) (K : PySem.W.Frag) (mg : Str → Option Value) (base : Heap) (k : Nat) (C : Addr) (m : Str) (sp : Sp) : Prop where
  ex : ∃ (f : Addr) (fd : FuncData) (ps : List Str), PySem.W.findIn K (.ref C) m = some (some (.ref f)) ∧ PySem.W.isFn K (.ref f) = true ∧ FnW P w K mg base k f fd ps sp ∧ Binds K fd ps []
section
variable {X : Cx} {k j : Nat} {f C : Addr} {fd : FuncData} {ps : List Str} {sp : Sp} {x m : Str} {p pos apos : Pos} {e o : Expr} {es : List Expr} {ta tb : TE} {t : TA}
theorem run_c {pins : List (Addr × Obj)} {σ : St} {H : Hp} {s : Shared} {Q : VK} {us : List Value} {vs : List V} (F : FnOk X.prog X.w X.K X.mg X.base CX0 k f fd ps sp) (hr : Room k X.A) (hb : Binds X.K fd ps [])
    (I : Inv X pins σ H s) (r : Vals vs us) (h : sp vs H Q E0) : wpAny (model X.prog X.w) X.A (call (.ref f) us) (EP X pins σ Q) X.xe s :=
  run_fn F hr hb .nil pass0 I r (by rw [List.append_nil]; exact h)
/-- f(e, ..) -/
theorem pe_cc (c : CalC X.prog X.w X.K X.mg X.base k x sp) (hr : Room j X.A) (hk : k ≤ j) (hg : Gl X x) (ha : PA X (e :: es) t)
    (hdb : (x == ("__debug__" : Str)) = false := by decide) (he : starEach (e :: es) X.env = (false, eval e X.env) :: starEach es X.env := by rfl) (hpl : (backTo pos (starEach es X.env)).any (·.1) = false := by rfl) :
    PE X (.Call (.Name x p) (e :: es) [] pos) (tCall sp [] E0 t) := by
  obtain ⟨f, fd, ps, F, hm, kp, b⟩ := c.ex
  exact pe_call F (hr.mono hk) hg hm kp b .nil pass0 ha hdb he hpl
theorem pe_mtc {pl : Sem Bool} (c : MetC X.prog X.w X.K X.mg X.base k C m sp) (hr : Room j X.A) (hk : k ≤ j) (he : PE X o ta) (ha : PA X (e :: es) t)
    (hst : starEach (e :: es) X.env = (false, eval e X.env) :: starEach es X.env := by rfl) (hpl : (backTo pos (starEach es X.env)).any (·.1) = false := by rfl)
    (ht : eval (.Call (.Attribute o m apos) (e :: es) [] pos) X.env = (do
      let ov ← eval o X.env
      standAt apos.atName
      let (f, first) ← holding [ov] (getMethod ov m pl)
      callWith pos f first (backTo pos (starEach (e :: es) X.env)) (backToKw pos (keywordEach [] X.env))) := by rfl) :
    PE X (.Call (.Attribute o m apos) (e :: es) [] pos) (tMeth C m sp [] E0 ta t) := by
  obtain ⟨f, fd, ps, hc, hm, F, b⟩ := c.ex
  exact pe_meth (pl := pl) he hc hm F (hr.mono hk) b .nil pass0 ha hst hpl ht
theorem pe_mtc0 {pl : Sem Bool} (c : MetC X.prog X.w X.K X.mg X.base k C m sp) (hr : Room j X.A) (hk : k ≤ j) (he : PE X o ta)
    (ht : eval (.Call (.Attribute o m apos) [] [] pos) X.env = (do
      let ov ← eval o X.env
      standAt apos.atName
      let (f, first) ← holding [ov] (getMethod ov m pl)
      callWith pos f first (backTo pos (starEach [] X.env)) (backToKw pos (keywordEach [] X.env))) := by rfl) :
    PE X (.Call (.Attribute o m apos) [] [] pos) (tMeth C m sp [] E0 ta tNil) := by
  obtain ⟨f, fd, ps, hc, hm, F, b⟩ := c.ex
  exact pe_meth0 (pl := pl) he hc hm F (hr.mono hk) b .nil pass0 ht
theorem pe_mkc (c : MakC X.prog X.w X.K X.mg X.base k x C sp) (hr : Room j X.A) (hk : k + 1 ≤ j) (hg : Gl X x) (ha : PA X (e :: es) t)
    (hdb : (x == ("__debug__" : Str)) = false := by decide) (he : starEach (e :: es) X.env = (false, eval e X.env) :: starEach es X.env := by rfl) (hpl : (backTo pos (starEach es X.env)).any (·.1) = false := by rfl) :
    PE X (.Call (.Name x p) (e :: es) [] pos) (tMake C sp [] E0 t) := by
  obtain ⟨f, fd, ps, M, F, hm, b⟩ := c.ex
  exact pe_make M F (hr.mono hk) hg hm b .nil pass0 ha hdb he hpl
theorem pe_prc (c : PrpC X.prog X.w X.K X.mg X.base k C m sp) (hr : Room j X.A) (hk : k + 1 ≤ j) (he : PE X o ta)
    (hab : attributeBase o m X.env (eval o X.env) = eval o X.env := by rfl) : PE X (.Attribute o m pos) (tProp C sp [] E0 ta) := by
  obtain ⟨p, g, fd, ps, hc, hp, F, hb⟩ := c.ex
  exact pe_prop he hc hp F (hr.mono hk) hb .nil pass0 hab
/-- an instance, as the library's rules see it -/
theorem inst_at {pins : List (Addr × Obj)} {σ : St} {H : Hp} {s : Shared} {a dx : Addr} {fs : List (Str × V)} (I : Inv X pins σ H s) (h : H a = some (.ins C dx fs)) : ∃ ox od, PySem.W.InstAt s.heap a ox C od ∧ ox.data = .plain := by
  obtain ⟨mA, O, _⟩ := ins_get I.hok h
  obtain ⟨od, J, _⟩ := O.look
  exact ⟨_, _, J, rfl⟩
/-- x in d -/
theorem op_inO (c : SpcC X.prog X.w X.K X.mg X.base k C "__contains__" sp) (hr : Room j X.A) (hk : k ≤ j) :
    OpR X (compareOp .In) (fun x y H Q => ∃ d dx fs, y = .ref d ∧ H d = some (.ins C dx fs) ∧ sp [.ref d, x] H (fun v H' => ∃ b, v = .bl b ∧ Q (.bl b) H') E0) := by
  intro pins s σ H x y v u Q I rx ry h
  obtain ⟨d, dx, fs, ey, hd, q⟩ := h
  subst ey
  cases ry
  obtain ⟨f, fd, ps, h1, h2, _, F, hb⟩ := c.ex
  obtain ⟨ox, od, J, _⟩ := inst_at I hd
  obtain ⟨m, Fm⟩ := I.fr
  refine PySem.W.in_K Fm I.mod.kin J h1 h2 (thn (run_c (vs := [.ref d, x]) F (hr.mono hk) hb I (.cons rfl (.cons rx .nil)) q) fun r s' z => ?_)
  obtain ⟨v2, H2, I2, r2, b, e2, q2⟩ := z
  subst e2
  cases r2
  exact wpAny_truthy_bool ⟨.bl b, H2, I2, rfl, q2⟩
/-- if d: -/
theorem pt_truO (c : SpcC X.prog X.w X.K X.mg X.base k C "__bool__" sp) (hr : Room j X.A) (hk : k ≤ j) (he : PE X e ta) (ht : ∀ whole, isTrue e X.env whole = (do let v ← whole; standAt e.pos; holding [v] (truthy v)) := by intro _; rfl) :
    PT X e (fun σ H Q => ta σ H fun x H1 => ∃ d dx fs, x = .ref d ∧ H1 d = some (.ins C dx fs) ∧ sp [.ref d] H1 (fun v H' => ∃ b, v = .bl b ∧ Q b H') E0) := by
  refine ⟨fun pins s σ H Q I h => ?_⟩
  refine isTrue_plain (thn (he.run pins s σ H _ I h) fun v s1 ⟨x, H1, I1, r1, d, dx, fs, ex, hd, q⟩ => ?_) (ht _)
  subst ex
  cases r1
  obtain ⟨f, fd, ps, h1, h2, _, F, hb⟩ := c.ex
  obtain ⟨ox, od, J, _⟩ := inst_at I1 hd
  obtain ⟨m, Fm⟩ := I1.fr
  refine PySem.W.truthy_K Fm I1.mod.kin J h1 h2 (thn (run_c (vs := [.ref d]) F (hr.mono hk) hb I1 (.cons rfl .nil) q) fun r s' z => ?_)
  obtain ⟨v2, H2, I2, r2, b, e2, q2⟩ := z
  subst e2
  cases r2
  exact ⟨H2, I2, q2⟩
/-- d[e] -/
theorem pe_getO {value slice : Expr} (c : SpcC X.prog X.w X.K X.mg X.base k C "__getitem__" sp) (hr : Room j X.A) (hk : k + 1 ≤ j) (ha : PE X value ta) (hb : PE X slice tb)
    (hsl : ∀ o i, subscripted slice true (.ref o) i = runValue (.builtin "lifetime.subscript" ⟨[.ref o, i], []⟩) := by intro o i; with_unfolding_all rfl) :
    PE X (.Subscript value slice pos) (fun σ H Q => ta σ H fun x H1 => tb σ H1 fun y H2 => ∃ d dx fs, x = .ref d ∧ H2 d = some (.ins C dx fs) ∧ sp [.ref d, y] H2 Q E0) := by
  refine ⟨fun pins s σ H Q I h => ?_⟩
  refine Subscript_ (binT ha hb I h fun v u s2 x y H2 I2 rx ry q => ?_)
  obtain ⟨d, dx, fs, ex, hd, q⟩ := q
  subst ex
  cases rx
  obtain ⟨f, fd, ps, h1, h2, h3, F, hbi⟩ := c.ex
  obtain ⟨ox, od, J, _⟩ := inst_at I2 hd
  obtain ⟨m, Fm⟩ := I2.fr
  refine PySem.W.sub_K Fm I2.mod.kin J h1 h3 h2 ?_ (hsl _ _)
  have r2 : Vals [V.ref d, y] [Value.ref d, u] := .cons rfl (.cons ry .nil)
  have hl : ([Value.ref d, u] : List Value).length = ps.length := F.len _ _ _ _ q
  have b := hbi s2 [Value.ref d, u] I2.kIn (by rw [List.append_nil]; exact hl)
  rw [List.append_nil] at b
  have hr1 : Room (k + 1) X.A := hr.mono hk
  refine wpAny_call (codeAny_mono (F.run X.A.in1 X.stack s2 H2 ⟨[.ref d, u], []⟩ [.ref d, u] [.ref d, y] Q E0 hr1.in1 I2.env0.in1 b r2 q) fun r s' hq => ?_)
  cases r with
  | error er => exact False.elim hq
  | ok fl =>
    cases fl with
    | ret w => exact I2.after hq
    | next => exact False.elim hq
    | brk => exact False.elim hq
    | cont => exact False.elim hq
/-- a - b, both of the class C -/
theorem op_subO (c : SpcW X.prog X.w X.K X.mg X.base k C "__sub__" sp) (hr : L2H.RoomH j X.A) (hk : k ≤ j) (hw : WarmX X) (hsf : PySem.W.selfFirst X.K C = true) :
    OpR X (binaryOp .Sub) (fun x y H Q => ∃ a dx fs b dy gs, x = .ref a ∧ y = .ref b ∧ H a = some (.ins C dx fs) ∧ H b = some (.ins C dy gs) ∧ sp [.ref a, .ref b] H (fun v H' => (∃ z, v = .ref z) ∧ Q v H') E0) := by
  intro pins s σ H x y v u Q I rx ry h
  obtain ⟨a, dx, fs, b, dy, gs, ex, ey, hx, hy, q⟩ := h
  subst ex ey
  cases rx
  cases ry
  obtain ⟨f, fd, ps, h1, h2, F, hb⟩ := c.ex
  obtain ⟨ox, od, J, _⟩ := inst_at I hx
  obtain ⟨oy, oe, J2, _⟩ := inst_at I hy
  obtain ⟨m, Fm⟩ := I.fr
  refine PySem.W.binop_K Fm I.mod.kin J J2.type hsf h1 h2 (thn (run_w (vs := [.ref a, .ref b]) F (hr.mono hk) hw hb I (.cons rfl (.cons rfl .nil)) q) fun r s' z => ?_)
  obtain ⟨v2, H2, I2, r2, ⟨zz, e2⟩, q2⟩ := z
  subst e2
  cases r2
  exact ⟨.ref zz, H2, I2, rfl, q2⟩
/-- o(e, ..), o an expression that gives an instance -/
theorem pe_callOw {fe : Expr} (c : SpcC X.prog X.w X.K X.mg X.base k C "__call__" sp) (hr : Room j X.A) (hk : k ≤ j) (hf : PE X fe ta) (ha : PA X (e :: es) t)
    (ht : eval (.Call fe (e :: es) [] pos) X.env = (do callWith pos (← eval fe X.env) [] (backTo pos (starEach (e :: es) X.env)) (backToKw pos (keywordEach [] X.env))) := by rfl)
    (he : starEach (e :: es) X.env = (false, eval e X.env) :: starEach es X.env := by rfl) (hpl : (backTo pos (starEach es X.env)).any (·.1) = false := by rfl) :
    PE X (.Call fe (e :: es) [] pos) (fun σ H Q => ta σ H fun y H1 => ∃ a, y = V.ref a ∧ t σ H1 fun vs H2 => (∃ dx fs, H2 a = some (.ins C dx fs)) ∧ sp (V.ref a :: vs) H2 Q E0) := by
  refine ⟨fun pins s σ H Q I h => ?_⟩
  refine Call_ (thn (hf.run pins s σ H _ I h) fun u s1 ⟨y, H1, I1, ry, a, ey, q⟩ => ?_) ht
  subst ey
  obtain rfl : u = Value.ref a := ry
  obtain ⟨f, fd, ps, h1, h2, h3, F, hb⟩ := c.ex
  refine StX.callO_with (thn (ha.run pos pins s1 σ H1 _ I1 q) fun us s2 ⟨vs, H2, I2, r, ⟨dx, fs, hi⟩, q2⟩ => ?_) he hpl
  obtain ⟨ox, od, J, hd⟩ := inst_at I2 hi
  refine ⟨⟨C, ox, od, J, hd⟩, ?_⟩
  have r2 : Vals (V.ref a :: vs) (Value.ref a :: us) := .cons rfl r
  have hl : (Value.ref a :: us).length = ps.length := by rw [← r2.length]; exact F.len _ _ _ _ q2
  have b := hb s2 (Value.ref a :: us) I2.kIn (by rw [List.append_nil]; exact hl)
  rw [List.append_nil] at b
  refine wpAny_call (PySem.W.kco_code I2.kIn J hd h1 h2 h3 (codeAny_mono (F.run X.A X.stack s2 H2 ⟨.ref a :: us, []⟩ (.ref a :: us) (.ref a :: vs) Q E0 (hr.mono hk) I2.env0 b r2 q2) fun r s' hq => ?_))
  cases r with
  | error er => exact False.elim hq
  | ok fl =>
    cases fl with
    | ret w => exact I2.after hq
    | next => exact False.elim hq
    | brk => exact False.elim hq
    | cont => exact False.elim hq
/-- list(e.values()) -/
theorem items_vals {kvs : List (Key × V)} {vs : List (Key × Value)} {acc : Array Value} (kv : KV kvs vs) (h : ItemsOf (fun i v => ∃ k, vs[i]? = some (k, v)) acc vs.length) : Vals (kvs.map (·.2)) acc.toList := by
  obtain ⟨hs, hi⟩ := h
  have key : ∀ (kvs : List (Key × V)) (vs : List (Key × Value)) (l : List Value), KV kvs vs → l.length = vs.length → (∀ (i : Nat) (v : Value), l[i]? = some v → ∃ k, vs[i]? = some (k, v)) → Vals (kvs.map (·.2)) l := by
    intro kvs
    induction kvs with
    | nil =>
      intro vs l r hl _
      cases r
      cases l with
      | nil => exact .nil
      | cons a b => cases hl
    | cons p r ih =>
      intro vs l r hl hi
      cases r with
      | @cons _ q _ vs r1 r2 =>
        cases l with
        | nil => cases hl
        | cons a l =>
          obtain ⟨kk, e⟩ := hi 0 a rfl
          have e' : q = (kk, a) := Option.some.inj e
          subst e'
          refine .cons r1.2 (ih vs l r2 (Nat.succ.inj hl) fun i v hv => hi (i + 1) v hv)
  exact key kvs vs acc.toList kv (by simp [hs]) fun i v hv => hi i v (by rw [← Array.getElem?_toList]; exact hv)
def tListVals (te : TE) : TE := fun σ H Q => te σ H fun x H1 => ∃ d kvs, x = .ref d ∧ H1 d = some (.dK kvs) ∧ ∀ l, H1 l = none → Q (.ref l) (upd H1 l (.lst (kvs.map (·.2))))
theorem pe_listVals {te : TE} {cpos : Pos} (hw : WarmX X) (he : PE X e te) (hg : Gl X "list") (hm : X.mg "list" = none) (hv : bootBuiltins "list" = some (.type "list")) (hbase : attributeBase e "values" X.env (eval e X.env) = eval e X.env := by rfl) (hline : (apos.endLine == cpos.line) = true := by rfl)
    (hs : starEach [.Call (.Attribute e "values" apos) [] [] cpos] X.env = (false, eval (.Call (.Attribute e "values" apos) [] [] cpos) X.env) :: starEach [] X.env := by rfl) :
    PE X (.Call (.Name "list" p) [.Call (.Attribute e "values" apos) [] [] cpos] [] pos) (tListVals te) := by
  refine ⟨fun pins s σ H Q I hq => ?_⟩
  refine wpAny_Call_Name_kw (ld_blt I hg hm hv ?_)
  refine PyProof.Rows.callWith_type1 ?_ hs rfl
  rw [hs]
  show wpAny _ _ (spliced ((false, eval (.Call (.Attribute e "values" apos) [] [] cpos) X.env) :: backTo pos (starEach [] X.env))) _ _ s
  refine Calls.spliced_cons ?_
  refine wpAny_Call_method (T := "dict") (id := "dict.values") hbase rfl hline F.plainAttrs_dict F.slot_dict_values F.type_dict_values (thn (he.run pins s σ H _ I hq) fun u s1 ⟨x, H1, I1, rx, d, kvs, ex, hd, q⟩ => ?_)
  subst ex
  obtain rfl : u = Value.ref d := rx
  obtain ⟨hz, hs0, vs, kv, hdo⟩ := I1.hok d _ hd
  obtain ⟨ep, hat⟩ := hdo.dictAt
  have lk : kvs.length = vs.length := Paired.length kv
  have I2 : Inv X pins σ H1 { s1 with heap := s1.heap.push { cls := .type "dict_values", data := .fields #[.ref d] } } := I1.kept (t' := s1.toks) fun b ob q => Heap.get?_push_of_some _ q
  refine ⟨hdo.typeIs, hdo.mapOf.noDict, ?_⟩
  show wpAny _ _ (callWith cpos (.builtin "dict.values") [.ref d] [] []) _ X.xe s1
  refine method_meetsIn F.slot_dict_values F.entry_dict_values rfl (PySem.evalArgs_none ⟨rfl, hdo.typeIs, F.args_dict_values_1 _, _, meets_dict_values (mixKind X.prog X.w) d hs0, ⟨vs, hdo⟩, ?_⟩)
  refine Calls.spliced_nil ?_
  have hview : (s1.heap.push { cls := .type "dict_values", data := .fields #[.ref d] }).IsValuesView s1.heap.objs.size d := ⟨_, Heap.get?_push_size _ rfl, rfl, rfl⟩
  have fin : ∀ h' tk acc c, (∀ b o, (s1.heap.push { cls := .type "dict_values", data := .fields #[.ref d] }).get? b = some o → h'.get? b = some o) →
      h'.get? (s1.heap.push { cls := .type "dict_values", data := .fields #[.ref d] }).objs.size = some { cls := .type "list", dict := none, data := .seq acc c, slots := #[] } → ItemsOf (fun i v => ∃ k, vs[i]? = some (k, v)) acc vs.length →
      EP X pins σ Q (.ref (s1.heap.push { cls := .type "dict_values", data := .fields #[.ref d] }).objs.size) { s1 with heap := h', toks := tk } := fun h' tk acc c hk hS hit => by
    have rv := items_vals kv hit
    have J := I2.laid (t' := tk) (h' := h') (a := (s1.heap.push { cls := .type "dict_values", data := .fields #[.ref d] }).objs.size) (o := .lst (kvs.map (·.2))) hk (Nat.le_refl _)
      ⟨by rw [List.length_map]; exact hz, acc.toList, c, rv, by rw [Array.toArray_toList]; exact hS⟩
    exact ⟨.ref (s1.heap.push { cls := .type "dict_values", data := .fields #[.ref d] }).objs.size, _, J, rfl, q _ (I2.hok.fresh (Nat.le_refl _))⟩
  rcases hw.at I2 with hh | ⟨x1, hot⟩
  · exact PySem.W.kdl_call (PySem.W.kdl_values (knd := mixKind X.prog X.w) (kvs := vs) (ep := ep)) hh ⟨hview, hat.push _⟩ (by omega) fun h' tk acc c hk hS hit => fin h' tk acc c hk hS hit
  · exact list_vals_hot (knd := mixKind X.prog X.w) hot hview (hat.push _) (by omega) fun h' tk acc c hk hS hit => fin h' tk acc c hk hS hit
end
end Wm
/-! ## GfE -/
set_option Elab.async false
set_option linter.all false
set_option maxRecDepth 100000
set_option maxHeartbeats 4000000
/-! An own exception with its own __init__, made where nothing is handled: its context is None. -/
namespace Wm
open PySem PySem.Spec PyProof.Rows L2
section
variable {X : Cx} {e : Expr} {es : List Expr} {ta : TA} {p pos : Pos}
theorem pmk_oexN {x : Str} {C fI : Addr} {k j : Nat} {fd : FuncData} {ps : List Str} {sp : Sp} (T : OexC X.K C) (iC : PySem.W.findIn X.K (.ref C) "__init__" = some (some (.ref fI))) (tI : PySem.W.typeIn X.K (.ref fI) = some (.type "function"))
    (F1 : FnOk X.prog X.w X.K X.mg X.base CX0 k fI fd ps sp) (hr : Room j X.A) (hk : k + 1 ≤ j) (hb : Binds X.K fd ps []) (hg : Gl X x) (hm : X.mg x = some (.ref C)) (ha : PA X (e :: es) ta)
    (hdb : (x == ("__debug__" : Str)) = false := by decide) (he : starEach (e :: es) X.env = (false, eval e X.env) :: starEach es X.env := by rfl) (hpl : (backTo pos (starEach es X.env)).any (·.1) = false := by rfl) :
    L2N.PMk X (.Call (.Name x p) (e :: es) [] pos) (tMkO C sp [] ta) := by
  intro pins s σ H Q I h
  obtain ⟨nm, q, N, bs, bm, sn, sub, ab, col, dd, k0, k1, k2, k3, k5, hC, hbm⟩ := T.cls
  refine wpAny_Call_Name_kw (ld_glob I hg hm ?_ hdb)
  refine PySem.W.callWith_K (h₀ := X.base) I.ok.mod.kin T.kC (thn (ha.run pos pins s σ H _ I h) fun us s1 ⟨vs, H1, I1, r1, hz, q1⟩ => ⟨I1.kIn, ?_⟩) he hpl
  show wpAny _ _ (call (.ref C) us) _ _ _
  obtain ⟨hp, g, dr, tk, os⟩ := s1
  have up1 : hp.objs.size ≤ hp.objs.size + 1 := Nat.le_succ _
  have q2 := q1 (hp.objs.size + 1) (I1.hok.fresh up1)
  have kp : ∀ b o, hp.get? b = some o → ((hp.push (PySem.W.kdv_tup us)).push (PySem.HandSPX.excO C hp.objs.size)).get? b = some o := fun b o e => Heap.get?_push_of_some _ (Heap.get?_push_of_some _ e)
  have atE : ((hp.push (PySem.W.kdv_tup us)).push (PySem.HandSPX.excO C hp.objs.size)).get? (hp.objs.size + 1) = some (PySem.HandSPX.excO C hp.objs.size) := by heap_get
  have I2 := I1.laid (t' := tk) (a := hp.objs.size + 1) (o := exo (hp.objs.size + 1) C none) (h' := (hp.push (PySem.W.kdv_tup us)).push (PySem.HandSPX.excO C hp.objs.size)) kp up1 (exo_ok atE)
  have rv : Vals (V.ref (hp.objs.size + 1) :: (vs ++ [])) (Value.ref (hp.objs.size + 1) :: us) := by rw [List.append_nil]; exact .cons rfl r1
  have hl : (Value.ref (hp.objs.size + 1) :: us ++ []).length = ps.length := by
    have e := rv.length
    rw [F1.len _ _ _ _ q2] at e
    rw [List.append_nil]
    exact e.symm
  have bb := hb _ (Value.ref (hp.objs.size + 1) :: us) I2.kIn hl
  rw [List.append_nil] at bb
  have hus : us.length ≤ sizeLine := by
    rw [← Paired.length r1, sizeLine_eq]
    omega
  have hr1 : Room (k + 1) X.A := hr.mono hk
  refine wpAny_call (PySem.HandSPX.call_own F.excBase_ValueError (fun Y => PySem.HandSPX.refsVE_contains Y bm hbm) (I1.kIn _ _ hC) (PySem.W.looks_findIn I1.kIn iC) (fun self => PySem.W.bind_fn I1.kIn self tI) hus
    (codeAny_mono (F1.run _ X.stack _ _ ⟨Value.ref (hp.objs.size + 1) :: us, []⟩ (Value.ref (hp.objs.size + 1) :: us) _ _ (fun _ _ _ => False) (hr1.make C us []) (I2.env0.make C us []) bb rv q2) fun r s' z => ?_))
  cases r with
  | error er => exact False.elim z
  | ok fl =>
    cases fl with
    | ret u =>
      obtain ⟨v, H2, os2, bare2, un2, hok2, rw2, ev, d, fs, ea, ed, hd1, q3⟩ := z
      subst ev
      obtain ⟨h2, g2, d2, t2, os'⟩ := s'
      obtain ⟨t0, G, J, kG, ge, hoe, na⟩ := mk_end0 (d2 := d2) (t2 := t2) I1 up1 kp un2 hok2 os2 bare2 ea ed hd1
      exact ⟨rw2, hp.objs.size + 1, _, _, ⟨G, g2, d2, t2, os'⟩, _, .ref C, some d, rfl, J, kG, ge, hoe, ⟨rfl, rfl, fun vs e => by cases e; rfl⟩, rfl, rfl, na, rfl, bare2, raises_own T.exC T.tyC, q3⟩
    | next => exact False.elim z
    | brk => exact False.elim z
    | cont => exact False.elim z
/-! ### isinstance of what stands there -/
/-- what isinstance says: x's type, the class c, the answer -/
def IsI (K : PySem.W.Frag) (H : Hp) (x c : V) (b : Bool) : Prop := ∃ t u, ClsV c u ∧ TyX K H x t ∧ PySem.W.kitOne K t u = some b
def rIsB (K : PySem.W.Frag) : List V → Hp → VK → Prop := fun vs H Q => ∃ x c b, vs = [x, c] ∧ IsI K H x c b ∧ Q (.bl b) H
theorem call_isB : CallR X (.builtin "isinstance") (rIsB X.K) := by
  intro pins s σ H xs us Q I r h
  obtain ⟨x, c, b, e, ⟨t, u, k, ty, q1⟩, q⟩ := h
  exact call_isi pins s σ H xs us Q I r ⟨x, c, t, u, b, e, k, ty, q1, q⟩
variable {K : PySem.W.Frag} {H : Hp}
theorem isi_int {i : Int} : IsI K H (.int i) (.ty "int") true := ⟨_, _, .ty _, .base (.int i), kit_ty (by decide +kernel)⟩
theorem isi_intb {i : Int} : IsI K H (.int i) (.ty "bool") false := ⟨_, _, .ty _, .base (.int i), kit_ty (by decide +kernel)⟩
theorem isi_str {z : Str} : IsI K H (.str z) (.ty "str") true := ⟨_, _, .ty _, .base (.str z), kit_ty (by decide +kernel)⟩
theorem isi_bool {z : Bool} : IsI K H (.bl z) (.ty "bool") true := ⟨_, _, .ty _, .base (.bl z), kit_ty (by decide +kernel)⟩
theorem isi_tup {a : Addr} {xs : List V} (h : SqT K H a xs) : IsI K H (.ref a) (.ty "tuple") true := by
  rcases h with (h | ⟨o, h⟩) | ⟨o, its, n, e, c, _⟩
  · exact ⟨_, _, .ty _, .base (.tup h), kit_ty (by decide +kernel)⟩
  · exact ⟨_, _, .ty _, .fTuple h, kit_ty (by decide +kernel)⟩
  · exact ⟨_, _, .ty _, .kTuple e c, kit_ty (by decide +kernel)⟩
theorem isi_lst {a : Addr} {xs : List V} (h : H a = some (.lst xs)) : IsI K H (.ref a) (.ty "list") true := ⟨_, _, .ty _, .base (.lst h), kit_ty (by decide +kernel)⟩
/-- a list is no instance of this class -/
theorem isi_lstN {a C : Addr} {xs : List V} (hk : PySem.W.kitOne K (.type "list") (.ref C) = some false) (h : H a = some (.lst xs)) : IsI K H (.ref a) (.ref C) false := ⟨_, _, .own _, .base (.lst h), hk⟩
theorem isi_ins {a C dx : Addr} {fs : List (Str × V)} (c : C8.InsC K C) (h : H a = some (.ins C dx fs)) : IsI K H (.ref a) (.ref C) true := ⟨_, _, .own _, .base (.ins h c.cl c.ha c.hn c.htk c.hm), c.me⟩
end
end Wm
/-! ## GfS -/
set_option Elab.async false
set_option linter.all false
set_option maxRecDepth 100000
set_option maxHeartbeats 4000000
/-! The sum of a tuple of numbers. -/
namespace Wm
open PySem PySem.Spec PyProof.Rows L2
section
variable {prog : Program} {w : World} {A : Around} {E : Value → Shared → Prop} {s : Shared}
theorem sum_tupG {t : Addr} {xs : Array (Int × Tok)} {Q : Value → Shared → Prop} (hh : A.handled = none) (hT : s.heap.IsTuple t (intItems xs))
    (h : ∀ h' tk t', (∀ b o, s.heap.get? b = some o → h'.get? b = some o) → Q (.int (preSum (numAt xs) xs.size) t') { s with heap := h', toks := tk }) :
    wpAny (model prog w) A (call (.builtin "sum") [.ref t]) Q E s := by
  have hlt : t < s.heap.objs.size := by obtain ⟨_, e, _⟩ := hT; exact Heap.lt_size e
  refine call_sum_walkG (wpAny_pyIter_tuple hT ?_)
  refine ⟨_, [_, t], [_], _, _, _, numAt xs, rfl, Walks.tuple (A := A.in1) hh _ t (Nat.ne_of_lt hlt) (intItems xs), ⟨⟨_, Heap.get?_push_size _ rfl, rfl, rfl⟩, hT.push _⟩, fun c hc => ?_, (fun _ _ => intItems_at), fun h' tk t' hk => ?_⟩
  · show c < (s.heap.push _).objs.size
    rw [Heap.size_push]
    rcases List.mem_cons.mp hc with rfl | hc
    · exact Nat.lt_succ_self _
    · rcases List.mem_cons.mp hc with rfl | hc
      · exact Nat.lt_succ_of_lt hlt
      · cases hc
  · have hold : ∀ c o, s.heap.get? c = some o → h'.get? c = some o := fun c o e => by
      refine hk c o (fun hm => ?_) (Heap.get?_push_of_some _ e)
      rcases List.mem_cons.mp hm with e1 | hm
      · exact absurd (e1 ▸ Heap.lt_size e) (Nat.lt_irrefl _)
      · cases hm
    have := h h' tk t' hold
    simpa [intItems] using this
theorem sum_tup_raw {t : Addr} {its : List Value} {ns : List Int} {Q : Value → Shared → Prop} (hh : A.handled = none) (hT : s.heap.IsTuple t its.toArray) (hi : IntsAre its ns)
    (h : ∀ h' tk t', (∀ b o, s.heap.get? b = some o → h'.get? b = some o) → Q (.int ns.sum t') { s with heap := h', toks := tk }) : wpAny (model prog w) A (call (.builtin "sum") [.ref t]) Q E s := by
  obtain ⟨xs, e⟩ := hi.allInts.items
  have hn : numsOf (intItems xs).toList = ns := by rw [← e]; exact hi.numsOf
  rw [nums_intItems] at hn
  rw [e] at hT
  refine sum_tupG hh hT fun h' tk t' hk => ?_
  have := h h' tk t' hk
  rw [preSum_eq, List.take_of_length_le (by simp), hn]; exact this
end
section
variable {X : Cx}
def rSumT (K : PySem.W.Frag) : List V → Hp → VK → Prop := fun vs H Q => ∃ (a : Addr) (ns : List Int), vs = [V.ref a] ∧ SqT K H a (ns.map V.int) ∧ Q (.int ns.sum) H
theorem cr_sumT (hc : X.calm = true) : CallR X (.builtin "sum") (rSumT X.K) := by
  intro pins s σ H vs us Q I r h
  obtain ⟨a, ns, rfl, hs, q⟩ := h
  obtain ⟨its, rv, hl, _⟩ := I.tuple hs
  rw [Vals.ref1 r]
  obtain ⟨o, e, c, n, d⟩ := hl
  exact sum_tup_raw (I.ok.hd hc) ⟨o, e, c, n, d⟩ rv.ints fun h' tk t' hk => ⟨.int _, H, I.kept hk, ⟨_, rfl⟩, q⟩
end
end Wm
/-! ## GfT -/
set_option Elab.async false
set_option linter.all false
set_option maxRecDepth 100000
set_option maxHeartbeats 4000000
/-! The text by places; what the walk asks of the module's facts. -/
namespace Gt
open PySem PySem.Spec PyProof.Rows L2 Wm
def top (i : Nat) : Stmt := PySem.Challenge.pw_grownfiles_k65_whole_idle_rows_on_disks.main.body.getD i (.Pass ⟨0, 0, 0, 0⟩)
abbrev s_is_integer : Stmt := top 24
abbrev s_check_integer : Stmt := top 25
abbrev s_is_name : Stmt := top 26
abbrev s_check_blocks : Stmt := top 30
abbrev s_whole_choices : Stmt := top 31
abbrev s_layers : Stmt := top 32
abbrev s_growths_at : Stmt := top 33
abbrev s_short_choices : Stmt := top 34
abbrev s_fullest : Stmt := top 35
abbrev s_most_idle_on : Stmt := top 36
abbrev s_row_of : Stmt := top 37
abbrev s_idle_row_on : Stmt := top 38
abbrev s_is_share : Stmt := top 41
abbrev s_part_of : Stmt := top 42
abbrev s_check_parts : Stmt := top 44
abbrev s_is_event : Stmt := top 50
abbrev s_is_enough : Stmt := top 53
abbrev s_first_enough : Stmt := top 54
abbrev s_best_enough : Stmt := top 55
abbrev s_place_by_rule : Stmt := top 56
abbrev s_by_short_runs : Stmt := top 57
abbrev s_placed : Stmt := top 58
abbrev s_is_run : Stmt := top 61
abbrev s_end_of : Stmt := top 62
abbrev s_is_before : Stmt := top 63
abbrev s_joined : Stmt := top 64
abbrev s_shared : Stmt := top 65
abbrev s_others : Stmt := top 66
abbrev s_runs_of : Stmt := top 67
abbrev s_pairs_of : Stmt := top 70
abbrev s_room_of : Stmt := top 71
abbrev s_check_disk : Stmt := top 77
abbrev s_check_row : Stmt := top 81
abbrev s_steps_on : Stmt := top 82
abbrev s_played : Stmt := top 83
abbrev s_law_hand : Stmt := top 85
abbrev s_law_draw : Stmt := top 86
abbrev s_law_parts : Stmt := top 87
abbrev s_law_book : Stmt := top 88
abbrev s_law_idle : Stmt := top 90
abbrev s_law_any : Stmt := top 91
abbrev s_law : Stmt := top 92
abbrev s_Book_init : Stmt := inClass (top 45) 0
abbrev s_Book_first : Stmt := inClass (top 45) 4
abbrev s_Book_step : Stmt := inClass (top 45) 10
abbrev s_Book_given : Stmt := inClass (top 45) 11
abbrev s_Book_call : Stmt := inClass (top 45) 12
abbrev s_Book_twin : Stmt := inClass (top 45) 14
abbrev s_Pairs_init : Stmt := inClass (top 68) 0
abbrev s_Room_init : Stmt := inClass (top 69) 0
abbrev s_Room_runs : Stmt := inClass (top 69) 2
abbrev s_Room_runs_from : Stmt := inClass (top 69) 3
abbrev s_Room_amount : Stmt := inClass (top 69) 4
abbrev s_Room_bool : Stmt := inClass (top 69) 5
abbrev s_Room_sub : Stmt := inClass (top 69) 11
abbrev s_File_init : Stmt := inClass (top 76) 0
abbrev s_File_idle : Stmt := inClass (top 76) 1
abbrev s_File_pieces : Stmt := inClass (top 76) 2
abbrev s_File_put_behind : Stmt := inClass (top 76) 4
abbrev s_Disk_init : Stmt := inClass (top 78) 0
abbrev s_Disk_names : Stmt := inClass (top 78) 2
abbrev s_Disk_free : Stmt := inClass (top 78) 3
abbrev s_Disk_twin : Stmt := inClass (top 78) 4
abbrev s_Disk_contains : Stmt := inClass (top 78) 6
abbrev s_Disk_getitem : Stmt := inClass (top 78) 8
abbrev s_Disk_make : Stmt := inClass (top 78) 9
abbrev s_Disk_open_file : Stmt := inClass (top 78) 10
abbrev s_Disk_grow : Stmt := inClass (top 78) 11
abbrev s_Disk_written_behind : Stmt := inClass (top 78) 13
abbrev s_Disk_do : Stmt := inClass (top 78) 18
abbrev s_Refused_init : Stmt := inClass (top 14) 0
theorem sc_is_integer : FnScope ["thing", "least", "most"] ["thing", "least", "most"] (defScope s_is_integer) := C8.fnScope_by (by decide +kernel)
theorem sc_check_integer : FnScope ["thing", "least", "most"] ["thing", "least", "most"] (defScope s_check_integer) := C8.fnScope_by (by decide +kernel)
theorem sc_is_name : FnScope ["thing", "letter"] ["thing"] (defScope s_is_name) := C8.fnScope_by (by decide +kernel)
theorem sc_check_blocks : FnScope ["blocks", "files", "least"] ["blocks", "files", "least"] (defScope s_check_blocks) := C8.fnScope_by (by decide +kernel)
theorem sc_whole_choices : FnScope ["book", "blocks", "found", "hold", "step", "total"] ["book", "blocks"] (defScope s_whole_choices) := C8.fnScope_by (by decide +kernel)
theorem sc_layers : FnScope ["choices", "blocks", "files", "found", "turn", "before", "layer", "best", "total", "idle", "growths", "held", "ahead", "here"] ["choices", "blocks", "files"] (defScope s_layers) := C8.fnScope_by (by decide +kernel)
theorem sc_growths_at : FnScope ["found", "files", "held", "rows", "idle", "total", "growths"] ["found", "files", "held"] (defScope s_growths_at) := C8.fnScope_by (by decide +kernel)
theorem sc_short_choices : FnScope ["book", "blocks", "found", "hold", "most", "many"] ["book", "blocks"] (defScope s_short_choices) := C8.fnScope_by (by decide +kernel)
theorem sc_fullest : FnScope ["book", "blocks", "files", "found", "best", "held", "here", "total", "idle", "growths", "ahead"] ["book", "blocks", "files"] (defScope s_fullest) := C8.fnScope_by (by decide +kernel)
theorem sc_most_idle_on : FnScope ["book", "blocks", "files"] ["book", "blocks", "files"] (defScope s_most_idle_on) := C8.fnScope_by (by decide +kernel)
theorem sc_row_of : FnScope ["rows", "files", "row", "number", "growths", "growth"] ["rows", "files"] (defScope s_row_of) := C8.fnScope_by (by decide +kernel)
theorem sc_idle_row_on : FnScope ["book", "blocks", "files"] ["book", "blocks", "files"] (defScope s_idle_row_on) := C8.fnScope_by (by decide +kernel)
theorem sc_is_share : FnScope ["thing"] ["thing"] (defScope s_is_share) := C8.fnScope_by (by decide +kernel)
theorem sc_part_of : FnScope ["share", "hold", "top", "bottom"] ["share", "hold"] (defScope s_part_of) := C8.fnScope_by (by decide +kernel)
theorem sc_check_parts : FnScope ["first", "roof", "share", "ahead"] ["first", "roof", "share", "ahead"] (defScope s_check_parts) := C8.fnScope_by (by decide +kernel)
theorem sc_is_event : FnScope ["thing"] ["thing"] (defScope s_is_event) := C8.fnScope_by (by decide +kernel)
theorem sc_is_enough : FnScope ["run", "many"] ["run", "many"] (defScope s_is_enough) := C8.fnScope_by (by decide +kernel)
theorem sc_first_enough : FnScope ["runs", "many", "run"] ["runs", "many"] (defScope s_first_enough) := C8.fnScope_by (by decide +kernel)
theorem sc_best_enough : FnScope ["runs", "many", "best", "run"] ["runs", "many"] (defScope s_best_enough) := C8.fnScope_by (by decide +kernel)
theorem sc_place_by_rule : FnScope ["rule", "free", "many", "behind", "after", "found", "run"] ["rule", "free", "many", "behind", "after"] (defScope s_place_by_rule) := C8.fnScope_by (by decide +kernel)
theorem sc_by_short_runs : FnScope ["free", "many", "need", "left", "found", "start", "length", "taken"] ["free", "many", "need"] (defScope s_by_short_runs) := C8.fnScope_by (by decide +kernel)
theorem sc_placed : FnScope ["rule", "free", "many", "behind", "after", "short", "need", "start"] ["rule", "free", "many", "behind", "after", "short", "need"] (defScope s_placed) := C8.fnScope_by (by decide +kernel)
theorem sc_is_run : FnScope ["thing"] ["thing"] (defScope s_is_run) := C8.fnScope_by (by decide +kernel)
theorem sc_end_of : FnScope ["run", "start", "length"] ["run"] (defScope s_end_of) := C8.fnScope_by (by decide +kernel)
theorem sc_is_before : FnScope ["one", "other"] ["one", "other"] (defScope s_is_before) := C8.fnScope_by (by decide +kernel)
theorem sc_joined : FnScope ["runs", "found", "run", "start", "end"] ["runs"] (defScope s_joined) := C8.fnScope_by (by decide +kernel)
theorem sc_shared : FnScope ["ours", "theirs", "found", "start", "end", "other", "last", "first"] ["ours", "theirs"] (defScope s_shared) := C8.fnScope_by (by decide +kernel)
theorem sc_others : FnScope ["pairs", "found", "at", "start", "end"] ["pairs"] (defScope s_others) := C8.fnScope_by (by decide +kernel)
theorem sc_runs_of : FnScope ["pairs", "start", "end"] ["pairs"] (defScope s_runs_of) := C8.fnScope_by (by decide +kernel)
theorem sc_pairs_of : FnScope ["thing"] ["thing"] (defScope s_pairs_of) := C8.fnScope_by (by decide +kernel)
theorem sc_room_of : FnScope ["pairs"] ["pairs"] (defScope s_room_of) := C8.fnScope_by (by decide +kernel)
theorem sc_check_disk : FnScope ["rule", "size", "short", "back", "late", "part", "thing"] ["rule", "size", "short", "back", "late"] (defScope s_check_disk) := C8.fnScope_by (by decide +kernel)
theorem sc_check_row : FnScope ["row", "number", "event"] ["row"] (defScope s_check_row) := C8.fnScope_by (by decide +kernel)
theorem sc_steps_on : GScope ["disk", "row", "number", "event", "given", "e", "many"] ["disk", "row"] (defScope s_steps_on) := ⟨rfl, rfl, rfl, by decide +kernel, rfl, by decide +kernel, by decide +kernel⟩
theorem sc_played : FnScope ["disk", "row", "twin", "step"] ["disk", "row"] (defScope s_played) := C8.fnScope_by (by decide +kernel)
theorem sc_law_hand : FnScope ["_law_script", "_law_k", "_law_cell", "_law_seed"] ["_law_script", "_law_k"] (defScope s_law_hand) := C8.fnScope_by (by decide +kernel)
theorem sc_law_draw : FnScope ["_law_pool", "_law_many", "_law_found"] ["_law_pool", "_law_many"] (defScope s_law_draw) := C8.fnScope_by (by decide +kernel)
theorem sc_law_parts : FnScope ["_law_pool", "_law_first", "_law_roof", "_law_any_pair", "_law_pair"] ["_law_pool"] (defScope s_law_parts) := C8.fnScope_by (by decide +kernel)
theorem sc_law_book : FnScope ["_law_parts_here"] ["_law_parts_here"] (defScope s_law_book) := C8.fnScope_by (by decide +kernel)
theorem sc_law_idle : FnScope ["_law_disk", "_law_name"] ["_law_disk"] (defScope s_law_idle) := C8.fnScope_by (by decide +kernel)
theorem sc_law_any : FnScope ["_law_pool", "_law_disk", "_law_names", "_law_due", "_law_name", "_law_turn", "_law_file", "_law_more", "e"] ["_law_pool", "_law_disk", "_law_names", "_law_due"] (defScope s_law_any) := C8.fnScope_by (by decide +kernel)
theorem sc_law : FnScope ["_law_script", "_law_k", "_law_pool", "_law_book_here", "_law_blocks", "_law_files", "_law_names", "_law_row", "_law_due", "_law_place", "_law_disk"] ["_law_script"] (defScope s_law) := C8.fnScope_by (by decide +kernel)
theorem sc_Book_init : FnScope ["self", "first", "roof", "share"] ["self", "first", "roof", "share"] (defScope s_Book_init) := C8.fnScope_by (by decide +kernel)
theorem sc_Book_first : FnScope ["self"] ["self"] (defScope s_Book_first) := C8.fnScope_by (by decide +kernel)
theorem sc_Book_step : FnScope ["self", "hold"] ["self", "hold"] (defScope s_Book_step) := C8.fnScope_by (by decide +kernel)
theorem sc_Book_given : FnScope ["self", "hold", "many"] ["self", "hold"] (defScope s_Book_given) := C8.fnScope_by (by decide +kernel)
theorem sc_Book_call : FnScope ["self", "hold", "need", "many"] ["self", "hold", "need"] (defScope s_Book_call) := C8.fnScope_by (by decide +kernel)
theorem sc_Book_twin : FnScope ["self"] ["self"] (defScope s_Book_twin) := C8.fnScope_by (by decide +kernel)
theorem sc_Pairs_init : FnScope ["self", "pairs"] ["self", "pairs"] (defScope s_Pairs_init) := C8.fnScope_by (by decide +kernel)
theorem sc_Room_init : FnScope ["self", "runs", "number", "run"] ["self", "runs"] (defScope s_Room_init) := C8.fnScope_by (by decide +kernel)
theorem sc_Room_runs : FnScope ["self"] ["self"] (defScope s_Room_runs) := C8.fnScope_by (by decide +kernel)
theorem sc_Room_runs_from : GScope ["self", "block"] ["self", "block"] (defScope s_Room_runs_from) := ⟨rfl, rfl, rfl, by decide +kernel, rfl, by decide +kernel, by decide +kernel⟩
theorem sc_Room_amount : FnScope ["self", "found", "start", "end"] ["self"] (defScope s_Room_amount) := C8.fnScope_by (by decide +kernel)
theorem sc_Room_bool : FnScope ["self"] ["self"] (defScope s_Room_bool) := C8.fnScope_by (by decide +kernel)
theorem sc_Room_sub : FnScope ["self", "other", "pairs"] ["self", "other"] (defScope s_Room_sub) := C8.fnScope_by (by decide +kernel)
theorem sc_File_init : FnScope ["self", "disk", "name"] ["self", "disk", "name"] (defScope s_File_init) := C8.fnScope_by (by decide +kernel)
theorem sc_File_idle : FnScope ["self"] ["self"] (defScope s_File_idle) := C8.fnScope_by (by decide +kernel)
theorem sc_File_pieces : FnScope ["self"] ["self"] (defScope s_File_pieces) := C8.fnScope_by (by decide +kernel)
theorem sc_File_put_behind : FnScope ["self", "runs", "start", "length"] ["self", "runs"] (defScope s_File_put_behind) := C8.fnScope_by (by decide +kernel)
theorem sc_Disk_init : FnScope ["self", "book", "rule", "size", "short", "back", "late"] ["self", "book", "rule", "size", "short", "back", "late"] (defScope s_Disk_init) := C8.fnScope_by (by decide +kernel)
theorem sc_Disk_names : FnScope ["self"] ["self"] (defScope s_Disk_names) := C8.fnScope_by (by decide +kernel)
theorem sc_Disk_free : FnScope ["self", "runs", "file"] ["self"] (defScope s_Disk_free) := C8.fnScope_by (by decide +kernel)
theorem sc_Disk_twin : FnScope ["self", "disk", "name", "file"] ["self"] (defScope s_Disk_twin) := C8.fnScope_by (by decide +kernel)
theorem sc_Disk_contains : FnScope ["self", "name"] ["self", "name"] (defScope s_Disk_contains) := C8.fnScope_by (by decide +kernel)
theorem sc_Disk_getitem : FnScope ["self", "name"] ["self", "name"] (defScope s_Disk_getitem) := C8.fnScope_by (by decide +kernel)
theorem sc_Disk_make : FnScope ["self", "name"] ["self", "name"] (defScope s_Disk_make) := C8.fnScope_by (by decide +kernel)
theorem sc_Disk_open_file : FnScope ["self", "name", "file"] ["self", "name"] (defScope s_Disk_open_file) := C8.fnScope_by (by decide +kernel)
theorem sc_Disk_grow : FnScope ["self", "name", "many", "file"] ["self", "name", "many"] (defScope s_Disk_grow) := C8.fnScope_by (by decide +kernel)
theorem sc_Disk_written_behind : FnScope ["self", "file", "many", "need", "free", "asked", "behind", "runs", "start", "length"] ["self", "file", "many"] (defScope s_Disk_written_behind) := C8.fnScope_by (by decide +kernel)
theorem sc_Disk_do : FnScope ["self", "event", "word", "name"] ["self", "event"] (defScope s_Disk_do) := C8.fnScope_by (by decide +kernel)
theorem sc_Refused_init : FnScope ["self", "name", "need"] ["self", "name", "need"] (defScope s_Refused_init) := C8.fnScope_by (by decide +kernel)
abbrev FnP (K : PySem.W.Frag) (x qual : Str) (st : Stmt) (kws : List (Str × V)) (f : Addr) : Prop := ∃ fd, FunD K x qual (defArgs st) (defBody st) (defScope st) [] kws f fd
structure Txt (K : PySem.W.Frag) (mg : Str → Option Value) : Prop where
  f_is_integer : FnP K "is_integer" "is_integer" s_is_integer [] 345
  g_is_integer : mg "is_integer" = some (.ref 345)
  f_check_integer : FnP K "check_integer" "check_integer" s_check_integer [] 352
  g_check_integer : mg "check_integer" = some (.ref 352)
  f_is_name : FnP K "is_name" "is_name" s_is_name [] 357
  g_is_name : mg "is_name" = some (.ref 357)
  f_check_blocks : FnP K "check_blocks" "check_blocks" s_check_blocks [] 364
  g_check_blocks : mg "check_blocks" = some (.ref 364)
  f_whole_choices : FnP K "whole_choices" "whole_choices" s_whole_choices [] 371
  g_whole_choices : mg "whole_choices" = some (.ref 371)
  f_layers : FnP K "layers" "layers" s_layers [] 376
  g_layers : mg "layers" = some (.ref 376)
  f_growths_at : FnP K "growths_at" "growths_at" s_growths_at [] 383
  g_growths_at : mg "growths_at" = some (.ref 383)
  f_short_choices : FnP K "short_choices" "short_choices" s_short_choices [] 390
  g_short_choices : mg "short_choices" = some (.ref 390)
  f_fullest : FnP K "fullest" "fullest" s_fullest [] 397
  g_fullest : mg "fullest" = some (.ref 397)
  f_most_idle_on : FnP K "most_idle_on" "most_idle_on" s_most_idle_on [] 404
  g_most_idle_on : mg "most_idle_on" = some (.ref 404)
  f_row_of : FnP K "row_of" "row_of" s_row_of [] 409
  g_row_of : mg "row_of" = some (.ref 409)
  f_idle_row_on : FnP K "idle_row_on" "idle_row_on" s_idle_row_on [] 416
  g_idle_row_on : mg "idle_row_on" = some (.ref 416)
  f_is_share : FnP K "is_share" "is_share" s_is_share [] 423
  g_is_share : mg "is_share" = some (.ref 423)
  f_part_of : FnP K "part_of" "part_of" s_part_of [] 430
  g_part_of : mg "part_of" = some (.ref 430)
  f_check_parts : FnP K "check_parts" "check_parts" s_check_parts [] 444
  g_check_parts : mg "check_parts" = some (.ref 444)
  f_is_event : FnP K "is_event" "is_event" s_is_event [] 619
  g_is_event : mg "is_event" = some (.ref 619)
  f_is_enough : FnP K "is_enough" "is_enough" s_is_enough [] 627
  g_is_enough : mg "is_enough" = some (.ref 627)
  f_first_enough : FnP K "first_enough" "first_enough" s_first_enough [] 634
  g_first_enough : mg "first_enough" = some (.ref 634)
  f_best_enough : FnP K "best_enough" "best_enough" s_best_enough [] 641
  g_best_enough : mg "best_enough" = some (.ref 641)
  f_place_by_rule : FnP K "place_by_rule" "place_by_rule" s_place_by_rule [] 646
  g_place_by_rule : mg "place_by_rule" = some (.ref 646)
  f_by_short_runs : FnP K "by_short_runs" "by_short_runs" s_by_short_runs [] 653
  g_by_short_runs : mg "by_short_runs" = some (.ref 653)
  f_placed : FnP K "placed" "placed" s_placed [("short", .bl true), ("need", .int 1)] 661
  g_placed : mg "placed" = some (.ref 661)
  f_is_run : FnP K "is_run" "is_run" s_is_run [] 668
  g_is_run : mg "is_run" = some (.ref 668)
  f_end_of : FnP K "end_of" "end_of" s_end_of [] 675
  g_end_of : mg "end_of" = some (.ref 675)
  f_is_before : FnP K "is_before" "is_before" s_is_before [] 682
  g_is_before : mg "is_before" = some (.ref 682)
  f_joined : ∃ fd, FunD K "joined" "joined" (defArgs s_joined) (defBody s_joined) (defScope s_joined) [] [] 689 fd ∧ fd.code = .ref 688
  g_joined : mg "joined" = some (.ref 689)
  f_shared : FnP K "shared" "shared" s_shared [] 696
  g_shared : mg "shared" = some (.ref 696)
  f_others : FnP K "others" "others" s_others [] 703
  g_others : mg "others" = some (.ref 703)
  f_runs_of : FnP K "runs_of" "runs_of" s_runs_of [] 708
  g_runs_of : mg "runs_of" = some (.ref 708)
  f_pairs_of : FnP K "pairs_of" "pairs_of" s_pairs_of [] 849
  g_pairs_of : mg "pairs_of" = some (.ref 849)
  f_room_of : FnP K "room_of" "room_of" s_room_of [] 856
  g_room_of : mg "room_of" = some (.ref 856)
  f_check_disk : FnP K "check_disk" "check_disk" s_check_disk [] 967
  g_check_disk : mg "check_disk" = some (.ref 967)
  f_check_row : FnP K "check_row" "check_row" s_check_row [] 1116
  g_check_row : mg "check_row" = some (.ref 1116)
  f_steps_on : FnP K "steps_on" "steps_on" s_steps_on [] 1123
  g_steps_on : mg "steps_on" = some (.ref 1123)
  f_played : FnP K "played" "played" s_played [] 1130
  g_played : mg "played" = some (.ref 1130)
  f_law_hand : FnP K "_law_hand" "_law_hand" s_law_hand [] 1137
  g_law_hand : mg "_law_hand" = some (.ref 1137)
  f_law_draw : FnP K "_law_draw" "_law_draw" s_law_draw [] 1144
  g_law_draw : mg "_law_draw" = some (.ref 1144)
  f_law_parts : FnP K "_law_parts" "_law_parts" s_law_parts [] 1151
  g_law_parts : mg "_law_parts" = some (.ref 1151)
  f_law_book : FnP K "_law_book" "_law_book" s_law_book [] 1158
  g_law_book : mg "_law_book" = some (.ref 1158)
  f_law_idle : FnP K "_law_idle" "_law_idle" s_law_idle [] 1170
  g_law_idle : mg "_law_idle" = some (.ref 1170)
  f_law_any : FnP K "_law_any" "_law_any" s_law_any [] 1177
  g_law_any : mg "_law_any" = some (.ref 1177)
  f_law : FnP K "law" "law" s_law [] 1184
  g_law : mg "law" = some (.ref 1184)
  f_Book_init : FnP K "__init__" "Book.__init__" s_Book_init [("share", .ref 452)] 460
  f_Book_first : FnP K "first" "Book.first" s_Book_first [] 497
  f_Book_step : FnP K "step" "Book.step" s_Book_step [] 548
  f_Book_given : FnP K "given" "Book.given" s_Book_given [] 555
  f_Book_call : FnP K "__call__" "Book.__call__" s_Book_call [] 562
  f_Book_twin : FnP K "twin" "Book.twin" s_Book_twin [] 576
  f_Pairs_init : FnP K "__init__" "Pairs.__init__" s_Pairs_init [] 722
  f_Room_init : FnP K "__init__" "Room.__init__" s_Room_init [] 743
  f_Room_runs : FnP K "runs" "Room.runs" s_Room_runs [] 760
  f_Room_runs_from : FnP K "runs_from" "Room.runs_from" s_Room_runs_from [] 767
  f_Room_amount : FnP K "amount" "Room.amount" s_Room_amount [] 774
  f_Room_bool : FnP K "__bool__" "Room.__bool__" s_Room_bool [] 781
  f_Room_sub : FnP K "__sub__" "Room.__sub__" s_Room_sub [] 821
  f_File_init : FnP K "__init__" "File.__init__" s_File_init [] 877
  f_File_idle : FnP K "idle" "File.idle" s_File_idle [] 884
  f_File_pieces : FnP K "pieces" "File.pieces" s_File_pieces [] 892
  f_File_put_behind : FnP K "put_behind" "File.put_behind" s_File_put_behind [] 906
  f_Disk_init : FnP K "__init__" "Disk.__init__" s_Disk_init [("rule", .str "first"), ("size", .non), ("short", .bl true), ("back", .bl false), ("late", .bl false)] 982
  f_Disk_names : FnP K "names" "Disk.names" s_Disk_names [] 996
  f_Disk_free : FnP K "free" "Disk.free" s_Disk_free [] 1003
  f_Disk_twin : FnP K "twin" "Disk.twin" s_Disk_twin [] 1008
  f_Disk_contains : FnP K "__contains__" "Disk.__contains__" s_Disk_contains [] 1022
  f_Disk_getitem : FnP K "__getitem__" "Disk.__getitem__" s_Disk_getitem [] 1036
  f_Disk_make : FnP K "make" "Disk.make" s_Disk_make [] 1043
  f_Disk_open_file : FnP K "open_file" "Disk.open_file" s_Disk_open_file [] 1050
  f_Disk_grow : FnP K "grow" "Disk.grow" s_Disk_grow [] 1057
  f_Disk_written_behind : FnP K "written_behind" "Disk.written_behind" s_Disk_written_behind [] 1069
  f_Disk_do : FnP K "do" "Disk.do" s_Disk_do [] 1102
  f_Refused_init : FnP K "__init__" "Refused.__init__" s_Refused_init [] 257
  g_Book : mg "Book" = some (.ref 593)
  g_Pairs : mg "Pairs" = some (.ref 725)
  g_Room : mg "Room" = some (.ref 838)
  g_File : mg "File" = some (.ref 956)
  g_Disk : mg "Disk" = some (.ref 1105)
  g_Refused : mg "Refused" = some (.ref 260)
  g_GrowError : mg "GrowError" = some (.ref 31)
  c_Book : Cls K 593
  n_Book_own_first : NoAttr K 593 "own_first"
  n_Book_own_roof : NoAttr K 593 "own_roof"
  n_Book_own_share : NoAttr K 593 "own_share"
  c_Pairs : Cls K 725
  n_Pairs_pairs : NoAttr K 725 "pairs"
  c_Room : Cls K 838
  n_Room_pairs : NoAttr K 838 "pairs"
  c_File : Cls K 956
  n_File_disk : NoAttr K 956 "disk"
  n_File_name : NoAttr K 956 "name"
  n_File_size : NoAttr K 956 "size"
  n_File_hold : NoAttr K 956 "hold"
  n_File_waiting : NoAttr K 956 "waiting"
  n_File_is_open : NoAttr K 956 "is_open"
  n_File_runs_held : NoAttr K 956 "runs_held"
  c_Disk : Cls K 1105
  n_Disk_own_book : NoAttr K 1105 "own_book"
  n_Disk_rule : NoAttr K 1105 "rule"
  n_Disk_size : NoAttr K 1105 "size"
  n_Disk_short : NoAttr K 1105 "short"
  n_Disk_back : NoAttr K 1105 "back"
  n_Disk_late : NoAttr K 1105 "late"
  n_Disk_after : NoAttr K 1105 "after"
  n_Disk_files : NoAttr K 1105 "files"
  m_Book_step : Meth K 593 "step" 548
  m_Book_given : Meth K 593 "given" 555
  m_Book_twin : Meth K 593 "twin" 576
  m_Room_runs : Meth K 838 "runs" 760
  m_Room_runs_from : Meth K 838 "runs_from" 767
  m_Room_amount : Meth K 838 "amount" 774
  m_File_pieces : Meth K 956 "pieces" 892
  m_File_put_behind : Meth K 956 "put_behind" 906
  m_Disk_names : Meth K 1105 "names" 996
  m_Disk_free : Meth K 1105 "free" 1003
  m_Disk_twin : Meth K 1105 "twin" 1008
  m_Disk_make : Meth K 1105 "make" 1043
  m_Disk_open_file : Meth K 1105 "open_file" 1050
  m_Disk_grow : Meth K 1105 "grow" 1057
  m_Disk_written_behind : Meth K 1105 "written_behind" 1069
  m_Disk_do : Meth K 1105 "do" 1102
  k_Book : Mk K 593 460
  k_Pairs : Mk K 725 722
  k_Room : Mk K 838 743
  k_File : Mk K 956 877
  k_Disk : Mk K 1105 982
  p_Book_first : PropOf K 593 "first" 507 497
  p_File_idle : PropOf K 956 "idle" 885 884
  s_Book_call : PySem.W.findIn K (.ref 593) "__call__" = some (some (.ref 562)) ∧ PySem.W.isFn K (.ref 562) = true ∧ PySem.W.fnIn K 562 = true
  s_Room_bool : PySem.W.findIn K (.ref 838) "__bool__" = some (some (.ref 781)) ∧ PySem.W.isFn K (.ref 781) = true ∧ PySem.W.fnIn K 781 = true
  s_Room_sub : PySem.W.findIn K (.ref 838) "__sub__" = some (some (.ref 821)) ∧ PySem.W.isFn K (.ref 821) = true ∧ PySem.W.fnIn K 821 = true
  s_Disk_contains : PySem.W.findIn K (.ref 1105) "__contains__" = some (some (.ref 1022)) ∧ PySem.W.isFn K (.ref 1022) = true ∧ PySem.W.fnIn K 1022 = true
  s_Disk_getitem : PySem.W.findIn K (.ref 1105) "__getitem__" = some (some (.ref 1036)) ∧ PySem.W.isFn K (.ref 1036) = true ∧ PySem.W.fnIn K 1036 = true
  i_Pairs : C8.InsC K 725
  i_Room : C8.InsC K 838
  i_list : PySem.W.kitOne K (.type "list") (.ref 725) = some false
  sf_Room : PySem.W.selfFirst K 838 = true
  x_Refused : OexC K 260
  xf_Refused : XfC K 260
  xn_name : PySem.W.findIn K (.ref 260) "name" = some none
  xn_need : PySem.W.findIn K (.ref 260) "need" = some none
  xi_Refused : PySem.W.findIn K (.ref 260) "__init__" = some (some (.ref 257))
  xt_Refused : PySem.W.typeIn K (.ref 257) = some (.type "function")
  xe_Refused : PySem.W.exmOne K (.ref 260) (.ref 260) = some true
  v_MOST : ∃ t, mg "MOST" = some (.int 10000000000000000000000000000000000000000 t)
  v_MOST_BLOCK : ∃ t, mg "MOST_BLOCK" = some (.int 100000000000000000000000000000000000000000000000000 t)
  v_MOST_GROWTH : ∃ t, mg "MOST_GROWTH" = some (.int 1000000000000000000000000000000 t)
  v_MOST_BLOCKS_refusals : ∃ t, mg "MOST_BLOCKS_refusals" = some (.int 300 t)
  v_MOST_FILES : ∃ t, mg "MOST_FILES" = some (.int 8 t)
  v_MOST_SHARE : ∃ t, mg "MOST_SHARE" = some (.int 100 t)
  v_MOST_RUNS : ∃ t, mg "MOST_RUNS" = some (.int 1000 t)
  v_MOST_BLOCKS_disks : ∃ t, mg "MOST_BLOCKS_disks" = some (.int 1000000 t)
  v_MOST_EVENTS : ∃ t, mg "MOST_EVENTS" = some (.int 10000 t)
  v_SMALL : ∃ t, mg "SMALL" = some (.str "abcdefghijklmnopqrstuvwxyz" t)
  v_RULES : mg "RULES" = some (.ref 620)
  t_RULES : ∀ H, SqT K H 620 [.str "behind", .str "first", .str "best", .str "next"]
  v_WORDS : mg "WORDS" = some (.ref 612)
  t_WORDS : ∀ H, SqT K H 612 [.str "make", .str "close", .str "open", .str "delete", .str "flush"]
  b_isinstance : mg "isinstance" = none
  b_int : mg "int" = none
  b_bool : mg "bool" = none
  b_str : mg "str" = none
  b_tuple : mg "tuple" = none
  b_list : mg "list" = none
  b_len : mg "len" = none
  b_range : mg "range" = none
  b_enumerate : mg "enumerate" = none
  b_min : mg "min" = none
  b_max : mg "max" = none
  b_all : mg "all" = none
  b_sum : mg "sum" = none
  b_sorted : mg "sorted" = none
end Gt
/-! ## GfK -/
set_option Elab.async false
set_option linter.all false
set_option maxRecDepth 100000
set_option maxHeartbeats 4000000
/-! Defs by their bodies: short words. -/
namespace Gt
open PySem PySem.Spec PyProof.Rows L2 Wm
section
variable {P : Program} {w : World} {K : PySem.W.Frag} {mg : Str → Option Value} {base : Heap} {x qual m : Str} {C : Addr} {st : Stmt} {kws : List (Str × V)} {f p : Addr} {N ps : List Str} {k : Nat} {sp : Sp}
/-- how such a def's arguments bind -/
abbrev BindN (x qual : Str) (st : Stmt) (ps : List Str) : Prop := ∀ (kV doc pm : Value) (an : Option Addr) (cdv ct : Value) (us : List Value), us.length = ps.length → bindArgs (PySem.W.fnOf x qual (defArgs st) (defBody st) (defScope st) .none kV doc pm an cdv ct) ⟨us, []⟩ = pure (ps.zip us)
abbrev BodyC (P : Program) (w : World) (K : PySem.W.Frag) (mg : Str → Option Value) (base : Heap) (qual : Str) (st : Stmt) (f : Addr) (N : List Str) (k : Nat) (sp : Sp) : Prop :=
  ∀ (cdv : Value) (A : Around) (outer : List Env) (s : Shared) (H : Hp) (vs : List V) (Q : VK) (E : XK), Room k (A.deeper (envOfC qual (defScope st) s.heap.objs.size f cdv)) → sp vs H Q E →
    ∃ t, PSs (cxOf CX0 P w K mg base N qual (defScope st) f cdv A outer s H E).nox (defBody st) t ∧ t { nx := fun _ H' => Q .non H', rt := Q } (start N vs) H
abbrev BodyW (P : Program) (w : World) (K : PySem.W.Frag) (mg : Str → Option Value) (base : Heap) (qual : Str) (st : Stmt) (f : Addr) (N : List Str) (k : Nat) (sp : Sp) : Prop :=
  ∀ (cdv : Value) (A : Around) (outer : List Env) (s : Shared) (H : Hp) (vs : List V) (Q : VK) (E : XK) (c : Bool) (pn : List (Addr × Obj)), WarmX (cxW P w K mg base N qual (defScope st) f cdv A outer s H E c pn) → L2H.RoomH k (A.deeper (envOfC qual (defScope st) s.heap.objs.size f cdv)) → sp vs H Q E →
    ∃ t, PSs (cxW P w K mg base N qual (defScope st) f cdv A outer s H E c pn).nox (defBody st) t ∧ t { nx := fun _ H' => Q .non H', rt := Q } (start N vs) H
theorem okC {fd : FuncData} (F : FunD K x qual (defArgs st) (defBody st) (defScope st) [] kws f fd) (S : FnScope N ps (defScope st)) (len : ∀ vs H Q E, sp vs H Q E → vs.length = ps.length) (hb : BodyC P w K mg base qual st f N k sp) : FnOk P w K mg base CX0 (k + 1) f fd ps sp :=
  F.ok S len fun cdv A outer s H vs Q E hr h => by
    obtain ⟨t, a, b⟩ := hb cdv A outer s H vs Q E hr h
    exact ⟨t, a.nox, b⟩
theorem calC_of (F : FnP K x x st [] f) (g : mg x = some (.ref f)) (S : FnScope N ps (defScope st)) (b : BindN x x st ps) (len : ∀ vs H Q E, sp vs H Q E → vs.length = ps.length) (hb : BodyC P w K mg base x st f N k sp) : CalC P w K mg base (k + 1) x sp := by
  obtain ⟨fd, F⟩ := F
  exact ⟨f, fd, ps, okC F S len hb, g, F.kp, F.bindsN b⟩
theorem calW_of (F : FnP K x x st [] f) (g : mg x = some (.ref f)) (S : FnScope N ps (defScope st)) (b : BindN x x st ps) (len : ∀ vs H Q E, sp vs H Q E → vs.length = ps.length) (hb : BodyW P w K mg base x st f N k sp) : CalW P w K mg base (k + 1) x sp := by
  obtain ⟨fd, F⟩ := F
  exact ⟨f, fd, ps, okW F S len hb, g, F.kp, F.bindsN b⟩
theorem metC_of (F : FnP K m qual st [] f) (c : Cls K C) (me : Meth K C m f) (S : FnScope N ps (defScope st)) (b : BindN m qual st ps) (len : ∀ vs H Q E, sp vs H Q E → vs.length = ps.length) (hb : BodyC P w K mg base qual st f N k sp) : MetC P w K mg base (k + 1) C m sp := by
  obtain ⟨fd, F⟩ := F
  exact ⟨f, fd, ps, c, me, okC F S len hb, F.bindsN b⟩
theorem metW_of (F : FnP K m qual st [] f) (c : Cls K C) (me : Meth K C m f) (S : FnScope N ps (defScope st)) (b : BindN m qual st ps) (len : ∀ vs H Q E, sp vs H Q E → vs.length = ps.length) (hb : BodyW P w K mg base qual st f N k sp) : MetW P w K mg base (k + 1) C m sp := by
  obtain ⟨fd, F⟩ := F
  exact ⟨f, fd, ps, c, me, okW F S len hb, F.bindsN b⟩
theorem makC_of (F : FnP K "__init__" qual st [] f) (M : Mk K C f) (g : mg x = some (.ref C)) (S : FnScope N ps (defScope st)) (b : BindN "__init__" qual st ps) (len : ∀ vs H Q E, sp vs H Q E → vs.length = ps.length) (hb : BodyC P w K mg base qual st f N k sp) : MakC P w K mg base (k + 1) x C sp := by
  obtain ⟨fd, F⟩ := F
  exact ⟨f, fd, ps, M, okC F S len hb, g, F.bindsN b⟩
theorem makW_of (F : FnP K "__init__" qual st [] f) (M : Mk K C f) (g : mg x = some (.ref C)) (S : FnScope N ps (defScope st)) (b : BindN "__init__" qual st ps) (len : ∀ vs H Q E, sp vs H Q E → vs.length = ps.length) (hb : BodyW P w K mg base qual st f N k sp) : MakW P w K mg base (k + 1) x C sp := by
  obtain ⟨fd, F⟩ := F
  exact ⟨f, fd, ps, M, okW F S len hb, g, F.bindsN b⟩
theorem prpC_of (F : FnP K m qual st [] f) (c : Cls K C) (pr : PropOf K C m p f) (S : FnScope N ps (defScope st)) (b : BindN m qual st ps) (len : ∀ vs H Q E, sp vs H Q E → vs.length = ps.length) (hb : BodyC P w K mg base qual st f N k sp) : PrpC P w K mg base (k + 1) C m sp := by
  obtain ⟨fd, F⟩ := F
  exact ⟨p, f, fd, ps, c, pr, okC F S len hb, F.bindsN b⟩
theorem prpW_of (F : FnP K m qual st [] f) (c : Cls K C) (pr : PropOf K C m p f) (S : FnScope N ps (defScope st)) (b : BindN m qual st ps) (len : ∀ vs H Q E, sp vs H Q E → vs.length = ps.length) (hb : BodyW P w K mg base qual st f N k sp) : PrpW P w K mg base (k + 1) C m sp := by
  obtain ⟨fd, F⟩ := F
  exact ⟨p, f, fd, ps, c, pr, okW F S len hb, F.bindsN b⟩
theorem spcC_of (F : FnP K m qual st [] f) (c : PySem.W.findIn K (.ref C) m = some (some (.ref f)) ∧ PySem.W.isFn K (.ref f) = true ∧ PySem.W.fnIn K f = true) (S : FnScope N ps (defScope st)) (b : BindN m qual st ps) (len : ∀ vs H Q E, sp vs H Q E → vs.length = ps.length) (hb : BodyC P w K mg base qual st f N k sp) : SpcC P w K mg base (k + 1) C m sp := by
  obtain ⟨fd, F⟩ := F
  exact ⟨f, fd, ps, c.1, c.2.1, c.2.2, okC F S len hb, F.bindsN b⟩
theorem spcW_of (F : FnP K m qual st [] f) (c : PySem.W.findIn K (.ref C) m = some (some (.ref f)) ∧ PySem.W.isFn K (.ref f) = true ∧ PySem.W.fnIn K f = true) (S : FnScope N ps (defScope st)) (b : BindN m qual st ps) (len : ∀ vs H Q E, sp vs H Q E → vs.length = ps.length) (hb : BodyW P w K mg base qual st f N k sp) : SpcW P w K mg base (k + 1) C m sp := by
  obtain ⟨fd, F⟩ := F
  exact ⟨f, fd, ps, c.1, c.2.1, okW F S len hb, F.bindsN b⟩
end
/-! ### calls with keywords -/
structure MakK (P : Program) (w : World) (K : PySem.W.Frag) (mg : Str → Option Value) (base : Heap) (k : Nat) (x : Str) (C : Addr) (n : Nat) (ks : List Str) (gV : List V → List V → List V) (sp : Sp) : Prop where
  ex : ∃ (f : Addr) (fd : FuncData) (ps : List Str) (g : List Value → List Value → List Value), Mk K C f ∧ FnOk P w K mg base CX0 k f fd ps sp ∧ mg x = some (.ref C) ∧ KBn K fd ps (n + 1) ks g gV
structure CalK (P : Program) (w : World) (K : PySem.W.Frag) (mg : Str → Option Value) (base : Heap) (k : Nat) (x : Str) (n : Nat) (ks : List Str) (gV : List V → List V → List V) (sp : Sp) : Prop where
  ex : ∃ (f : Addr) (fd : FuncData) (ps : List Str) (g : List Value → List Value → List Value), FnOk P w K mg base CX0 k f fd ps sp ∧ mg x = some (.ref f) ∧ PySem.W.keepIn K (.ref f) = true ∧ KBn K fd ps n ks g gV
section
variable {X : Cx} {k j n : Nat} {C : Addr} {x : Str} {sp : Sp} {ks : List Str} {gV : List V → List V → List V} {p pos : Pos} {e : Expr} {es : List Expr} {kws : List Keyword} {t tk : TA}
theorem pe_mkk (c : MakK X.prog X.w X.K X.mg X.base k x C n ks gV sp) (hr : Room j X.A) (hk : k + 1 ≤ j) (hg : Gl X x) (ha : PA X (e :: es) t) (hkw : PK X kws tk)
    (hall : (backToKw pos (keywordEach kws X.env)).all (·.1.isSome) = true := by rfl) (hks : (backToKw pos (keywordEach kws X.env)).filterMap (·.1) = ks := by rfl) (hdb : (x == ("__debug__" : Str)) = false := by decide)
    (he : starEach (e :: es) X.env = (false, eval e X.env) :: starEach es X.env := by rfl) (hpl : ((backTo pos (starEach (e :: es) X.env)).any (·.1) || (backToKw pos (keywordEach kws X.env)).any (·.1.isNone)) = false := by rfl) :
    PE X (.Call (.Name x p) (e :: es) kws pos) (tMakeK C n ks.length sp gV E0 t tk) := by
  obtain ⟨f, fd, ps, g, M, F, hm, b⟩ := c.ex
  exact pe_makeK M F (hr.mono hk) hg hm b pass0 ha hkw hall hks hdb he hpl
theorem pe_ck (c : CalK X.prog X.w X.K X.mg X.base k x n ks gV sp) (hr : Room j X.A) (hk : k ≤ j) (hg : Gl X x) (ha : PA X (e :: es) t) (hkw : PK X kws tk)
    (hall : (backToKw pos (keywordEach kws X.env)).all (·.1.isSome) = true := by rfl) (hks : (backToKw pos (keywordEach kws X.env)).filterMap (·.1) = ks := by rfl) (hdb : (x == ("__debug__" : Str)) = false := by decide)
    (he : starEach (e :: es) X.env = (false, eval e X.env) :: starEach es X.env := by rfl) (hpl : ((backTo pos (starEach (e :: es) X.env)).any (·.1) || (backToKw pos (keywordEach kws X.env)).any (·.1.isNone)) = false := by rfl) :
    PE X (.Call (.Name x p) (e :: es) kws pos) (tCallN n ks.length sp gV E0 t tk) := by
  obtain ⟨f, fd, ps, g, F, hm, kp, b⟩ := c.ex
  exact pe_callN F (hr.mono hk) hg hm kp b pass0 ha hkw hall hks hdb he hpl
end
/-! ### names of the module -/
section
variable {X : Cx} {x : Str} {pos : Pos}
theorem pe_gi {i : Int} (hg : Gl X x) (h : ∃ t, X.mg x = some (.int i t)) (hd : (x == ("__debug__" : Str)) = false := by decide) : PE X (.Name x pos) (tC (.int i)) := by
  obtain ⟨t, h⟩ := h
  exact pe_glob hg h ⟨t, rfl⟩ hd
theorem pe_gs {z : Str} (hg : Gl X x) (h : ∃ t, X.mg x = some (.str z t)) (hd : (x == ("__debug__" : Str)) = false := by decide) : PE X (.Name x pos) (tC (.str z)) := by
  obtain ⟨t, h⟩ := h
  exact pe_glob hg h ⟨t, rfl⟩ hd
theorem pe_gr {a : Addr} (hg : Gl X x) (h : X.mg x = some (.ref a)) (hd : (x == ("__debug__" : Str)) = false := by decide) : PE X (.Name x pos) (tC (.ref a)) := pe_glob hg h rfl hd
end
theorem q_bl {Q : VK} {H : Hp} {c : Prop} [Decidable c] (h : c) (q : Q (.bl true) H) : Q (.bl (decide c)) H := by rw [decide_eq_true h]; exact q
theorem q_blF {Q : VK} {H : Hp} {c : Prop} [Decidable c] (h : ¬ c) (q : Q (.bl false) H) : Q (.bl (decide c)) H := by rw [decide_eq_false h]; exact q
theorem ifT {c A B : Prop} [Decidable c] (h : c) (a : A) : if decide c = true then A else B := by rw [decide_eq_true h]; exact iteT a
theorem ifF {c A B : Prop} [Decidable c] (h : ¬ c) (b : B) : if decide c = true then A else B := by rw [decide_eq_false h]; exact iteF b
theorem ifN {c A B : Prop} [Decidable c] (h : ¬ c) (a : A) : if (!decide c) = true then A else B := by rw [decide_eq_false h]; exact iteT a
theorem ifNN {c A B : Prop} [Decidable c] (h : c) (b : B) : if (!decide c) = true then A else B := by rw [decide_eq_true h]; exact iteF b
theorem if2 {c A B : Prop} [Decidable c] (h1 : c → A) (h2 : ¬ c → B) : if decide c = true then A else B := by
  by_cases h : c
  · exact ifT h (h1 h)
  · exact ifF h (h2 h)
/-! ### heaps -/
theorem same_upd {H : Hp} {a : Addr} {o : HO} (h : H a = none) : Same H (upd H a o) := fun b u e => by rw [upd_ne (ne_of_none e h)]; exact e
theorem same_ext {H H' : Hp} (s : Same H H') : LamX.ExtN H H' := fun b o h _ => s b o h
theorem sqT_keep {K : PySem.W.Frag} {H H' : Hp} {a : Addr} {xs : List V} (e : LamX.ExtN H H') (h : SqT K H a xs) : SqT K H' a xs := by
  rcases h with (h | ⟨o, h⟩) | h
  · exact .inl (.inl (e _ _ h fun ps z => by cases z))
  · exact .inl (.inr ⟨o, e _ _ h fun ps z => by cases z⟩)
  · exact .inr h
theorem sqL_keep {K : PySem.W.Frag} {H H' : Hp} {a : Addr} {xs : List V} (e : LamX.ExtN H H') (h : SqL K H a xs) : SqL K H' a xs := by
  rcases h with (h | ⟨o, h⟩) | h
  · exact .inl (.inl (e _ _ h fun ps z => by cases z))
  · exact .inl (.inr ⟨o, e _ _ h fun ps z => by cases z⟩)
  · exact .inr h
theorem keep_ins {H H' : Hp} {a C dx : Addr} {fs : List (Str × V)} (e : LamX.ExtN H H') (h : H a = some (.ins C dx fs)) : H' a = some (.ins C dx fs) := e _ _ h fun ps z => by cases z
theorem keep_lst {H H' : Hp} {a : Addr} {xs : List V} (e : LamX.ExtN H H') (h : H a = some (.lst xs)) : H' a = some (.lst xs) := e _ _ h fun ps z => by cases z
theorem keep_tup {H H' : Hp} {a : Addr} {xs : List V} (e : LamX.ExtN H H') (h : H a = some (.tup xs)) : H' a = some (.tup xs) := e _ _ h fun ps z => by cases z
theorem keep_dK {H H' : Hp} {a : Addr} {xs : List (Key × V)} (e : LamX.ExtN H H') (h : H a = some (.dK xs)) : H' a = some (.dK xs) := e _ _ h fun ps z => by cases z
end Gt
/-! ## GfX -/
set_option Elab.async false
set_option linter.all false
set_option maxRecDepth 100000
set_option maxHeartbeats 4000000
/-! Defs that may raise Refused, and calls of them. -/
namespace Gt
open PySem PySem.Spec PyProof.Rows L2 Wm
section
variable {P : Program} {w : World} {K : PySem.W.Frag} {mg : Str → Option Value} {base : Heap} {x qual : Str} {st : Stmt} {kws : List (Str × V)} {f : Addr} {N ps : List Str} {k : Nat} {sp : Sp}
theorem okXn {fd : FuncData} (F : FunD K x qual (defArgs st) (defBody st) (defScope st) [] kws f fd) (S : FnScope N ps (defScope st)) (len : ∀ vs H Q E, sp vs H Q E → vs.length = ps.length)
    (hb : ∀ (cdv : Value) (A : Around) (outer : List Env) (s : Shared) (H : Hp) (vs : List V) (Q : VK) (E : XK), Room k (A.deeper (envOfC qual (defScope st) s.heap.objs.size f cdv)) → sp vs H Q E →
      ∃ t, PSs (cxOf (L2N.CX P w) P w K mg base N qual (defScope st) f cdv A outer s H E) (defBody st) t ∧ t { nx := fun _ H' => Q .non H', rt := Q } (start N vs) H) : FnOk P w K mg base (L2N.CX P w) (k + 1) f fd ps sp := by
  obtain ⟨oc, od, dV, kV, doc, pm, an, cdv, ct, osl, rfl, lk, hcd, _, _⟩ := F.ex
  exact fn_of lk hcd S len fun A outer s H vs Q E hr hsp => hb cdv A outer s H vs Q E hr hsp
end
structure MetX (P : Program) (w : World) (K : PySem.W.Frag) (mg : Str → Option Value) (base : Heap) (k : Nat) (C : Addr) (m : Str) (sp : Sp) : Prop where
  ex : ∃ (f : Addr) (fd : FuncData) (ps : List Str), Cls K C ∧ Meth K C m f ∧ FnOk P w K mg base (L2N.CX P w) k f fd ps sp ∧ Binds K fd ps []
section
variable {P : Program} {w : World} {K : PySem.W.Frag} {mg : Str → Option Value} {base : Heap} {m qual : Str} {st : Stmt} {f C : Addr} {N ps : List Str} {k : Nat} {sp : Sp}
theorem metX_of (F : FnP K m qual st [] f) (c : Cls K C) (me : Meth K C m f) (S : FnScope N ps (defScope st)) (b : BindN m qual st ps) (len : ∀ vs H Q E, sp vs H Q E → vs.length = ps.length)
    (hb : ∀ (cdv : Value) (A : Around) (outer : List Env) (s : Shared) (H : Hp) (vs : List V) (Q : VK) (E : XK), Room k (A.deeper (envOfC qual (defScope st) s.heap.objs.size f cdv)) → sp vs H Q E →
      ∃ t, PSs (cxOf (L2N.CX P w) P w K mg base N qual (defScope st) f cdv A outer s H E) (defBody st) t ∧ t { nx := fun _ H' => Q .non H', rt := Q } (start N vs) H) : MetX P w K mg base (k + 1) C m sp := by
  obtain ⟨fd, F⟩ := F
  exact ⟨f, fd, ps, c, me, okXn F S len hb, F.bindsN b⟩
end
section
variable {X : Cx} {k j : Nat} {C : Addr} {m : Str} {sp : Sp} {pos apos : Pos} {e o : Expr} {es : List Expr} {ta : TE} {t : TA} {E : XK} {pl : Sem Bool}
theorem passN0 : Passes (L2N.CX X.prog X.w) X E0 := fun _ _ _ _ _ _ _ h => by
  obtain ⟨_, _, _, _, _, _, _, _, _, _, _, _, h⟩ := h
  exact h.elim
/-- a call whose exceptions leave the def -/
theorem pe_mtx (c : MetX X.prog X.w X.K X.mg X.base k C m sp) (hr : Room j X.A) (hk : k ≤ j) (hx : Passes (L2N.CX X.prog X.w) X E) (he : PE X o ta) (ha : PA X (e :: es) t)
    (hst : starEach (e :: es) X.env = (false, eval e X.env) :: starEach es X.env := by rfl) (hpl : (backTo pos (starEach es X.env)).any (·.1) = false := by rfl)
    (ht : eval (.Call (.Attribute o m apos) (e :: es) [] pos) X.env = (do
      let ov ← eval o X.env
      standAt apos.atName
      let (f, first) ← holding [ov] (getMethod ov m pl)
      callWith pos f first (backTo pos (starEach (e :: es) X.env)) (backToKw pos (keywordEach [] X.env))) := by rfl) :
    PE X (.Call (.Attribute o m apos) (e :: es) [] pos) (tMeth C m sp [] E ta t) := by
  obtain ⟨f, fd, ps, hc, hm, F, b⟩ := c.ex
  exact pe_meth (pl := pl) he hc hm F (hr.mono hk) b .nil hx ha hst hpl ht
/-- a call within a try: what it may raise depends on the slots -/
def tMethS2 (C : Addr) (m : Str) (sp : Sp) (E : L2.St → XK) (ta : TE) (t : TA) : TE := fun σ H Q => ta σ H fun x H1 => ∃ a dx fs, x = .ref a ∧ H1 a = some (.ins C dx fs) ∧ fs.lookup m = none ∧ t σ H1 fun vs H2 => sp (x :: vs) H2 Q (E σ)
theorem pe_mtxS {E : L2.St → XK} (c : MetX X.prog X.w X.K X.mg X.base k C m sp) (hr : Room j X.A) (hk : k ≤ j) (hx : ∀ σ, PassesAt (L2N.CX X.prog X.w) X σ (E σ)) (he : PE X o ta) (ha : PA X (e :: es) t)
    (hst : starEach (e :: es) X.env = (false, eval e X.env) :: starEach es X.env := by rfl) (hpl : (backTo pos (starEach es X.env)).any (·.1) = false := by rfl)
    (ht : eval (.Call (.Attribute o m apos) (e :: es) [] pos) X.env = (do
      let ov ← eval o X.env
      standAt apos.atName
      let (f, first) ← holding [ov] (getMethod ov m pl)
      callWith pos f first (backTo pos (starEach (e :: es) X.env)) (backToKw pos (keywordEach [] X.env))) := by rfl) :
    PE X (.Call (.Attribute o m apos) (e :: es) [] pos) (tMethS2 C m sp E ta t) := by
  obtain ⟨f, fd, ps, hc, hm, F, b⟩ := c.ex
  refine ⟨fun pins s σ H Q I h => ?_⟩
  refine PySem.W.methodCall_KW (pl := pl) (thn (he.run pins s σ H _ I h) fun u s1 ⟨x, H1, I1, rx, a, dx, fs, ex, ea, l, q⟩ => ?_) ht
  subst ex
  obtain rfl : u = Value.ref a := rx
  refine getmeth_ok I1 ea hc hm l ?_
  refine PySem.W.callWith_K (first := [.ref a]) (h₀ := X.base) I.ok.mod.kin hm.kp (thn (ha.run pos pins s1 σ H1 _ I1 q) fun us s2 ⟨vs, H2, I2, r, q2⟩ => ⟨I2.kIn, ?_⟩) hst hpl
  exact run_fnS (us := .ref a :: us) (vs := .ref a :: vs) F (hr.mono hk) b (hx σ) I2 (.cons rfl r) q2
end
end Gt
/-! ## GfY -/
set_option Elab.async false
set_option linter.all false
set_option maxRecDepth 100000
set_option maxHeartbeats 4000000
/-! o.f(e, ..), f a field of o that holds an instance with __call__. -/
namespace Gt
open PySem PySem.Spec PyProof.Rows L2 Wm
section
variable {X : Cx} {k j : Nat} {C2 : Addr} {m : Str} {sp : Sp} {pos apos : Pos} {e o : Expr} {es : List Expr} {ta : TE} {t : TA} {pl : Sem Bool}
def tCallF (K : PySem.W.Frag) (m : Str) (C2 : Addr) (sp : Sp) (ta : TE) (t : TA) : TE := fun σ H Q => ta σ H fun x H1 => ∃ a C dx fs b, x = .ref a ∧ H1 a = some (.ins C dx fs) ∧ Cls K C ∧ NoAttr K C m ∧ fs.lookup m = some (.ref b) ∧
  t σ H1 fun vs H2 => (∃ dy gs, H2 b = some (.ins C2 dy gs)) ∧ sp (.ref b :: vs) H2 Q E0
theorem pe_callF (c : SpcC X.prog X.w X.K X.mg X.base k C2 "__call__" sp) (hr : Room j X.A) (hk : k ≤ j) (ho : PE X o ta) (ha : PA X (e :: es) t)
    (he : starEach (e :: es) X.env = (false, eval e X.env) :: starEach es X.env := by rfl) (hpl : (backTo pos (starEach es X.env)).any (·.1) = false := by rfl)
    (ht : eval (.Call (.Attribute o m apos) (e :: es) [] pos) X.env = (do
      let ov ← eval o X.env
      standAt apos.atName
      let (f, first) ← holding [ov] (getMethod ov m pl)
      callWith pos f first (backTo pos (starEach (e :: es) X.env)) (backToKw pos (keywordEach [] X.env))) := by rfl) :
    PE X (.Call (.Attribute o m apos) (e :: es) [] pos) (tCallF X.K m C2 sp ta t) := by
  refine ⟨fun pins s σ H Q I h => ?_⟩
  refine PySem.W.methodCall_KW (pl := pl) (thn (ho.run pins s σ H _ I h) fun u s1 ⟨x, H1, I1, rx, a, C, dx, fs, b, ex, ea, hc, n, l, q⟩ => ?_) ht
  subst ex
  obtain rfl : u = Value.ref a := rx
  obtain ⟨ox0, od0, J0, _⟩ := inst_at I1 ea
  refine PySem.W.method_usual I1.kIn J0 (PySem.W.plainGet_of (hc.get m)).1 (PySem.W.plainGet_of (hc.get m)).2 n rfl (getattr_ok I1 ea hc n l fun u' s2 I2 ru => ?_)
  obtain rfl : u' = Value.ref b := ru
  obtain ⟨f, fd, ps, h1, h2, h3, F, hb⟩ := c.ex
  refine StX.callO_with (thn (ha.run pos pins s2 σ H1 _ I2 q) fun us s3 ⟨vs, H2, I3, r, ⟨dy, gs, hi⟩, q2⟩ => ?_) he hpl
  obtain ⟨ox, od, J, hd⟩ := inst_at I3 hi
  refine ⟨⟨C2, ox, od, J, hd⟩, ?_⟩
  have r2 : Vals (V.ref b :: vs) (Value.ref b :: us) := .cons rfl r
  have hl : (Value.ref b :: us).length = ps.length := by rw [← r2.length]; exact F.len _ _ _ _ q2
  have bb := hb s3 (Value.ref b :: us) I3.kIn (by rw [List.append_nil]; exact hl)
  rw [List.append_nil] at bb
  refine wpAny_call (PySem.W.kco_code I3.kIn J hd h1 h2 h3 (codeAny_mono (F.run X.A X.stack s3 H2 ⟨.ref b :: us, []⟩ (.ref b :: us) (.ref b :: vs) Q E0 (hr.mono hk) I3.env0 bb r2 q2) fun r s' hq => ?_))
  cases r with
  | error er => exact False.elim hq
  | ok fl =>
    cases fl with
    | ret w => exact I3.after hq
    | next => exact False.elim hq
    | brk => exact False.elim hq
    | cont => exact False.elim hq
end
end Gt
/-! ## GfK1 -/
set_option Elab.async false
set_option linter.all false
set_option maxRecDepth 100000
set_option maxHeartbeats 4000000
namespace Gt
open PySem PySem.Spec PyProof.Rows L2 Wm
/-! ### whole numbers -/
def spInt : Sp := fun vs H Q _ => ∃ a l m : Int, vs = [.int a, .int l, .int m] ∧ l ≤ a ∧ a ≤ m ∧ Q (.bl true) H
def spChk : Sp := fun vs H Q _ => ∃ a l m : Int, vs = [.int a, .int l, .int m] ∧ l ≤ a ∧ a ≤ m ∧ Q .non H
def spBlocks : Sp := fun vs H Q _ => ∃ a b l : Int, vs = [.int a, .int b, .int l] ∧ (1 ≤ a ∧ a ≤ 300) ∧ (l ≤ b ∧ b ≤ 8) ∧ Q .non H
/-! ### books -/
/-- the share at t: top, bot -/
def ShareAt (K : PySem.W.Frag) (H : Hp) (t : Addr) (b : Gf.Bk) : Prop := SqT K H t [.int b.top, .int b.bot] ∧ (1 ≤ b.top ∧ b.top ≤ 100) ∧ (1 ≤ b.bot ∧ b.bot ≤ 100)
def bookFs (b : Gf.Bk) (t : Addr) : List (Str × V) := [("own_first", .int b.first), ("own_roof", .int b.roof), ("own_share", .ref t)]
def BookAt (K : PySem.W.Frag) (H : Hp) (a : Addr) (b : Gf.Bk) : Prop := ∃ dx t, H a = some (.ins 593 dx (bookFs b t)) ∧ ShareAt K H t b
theorem ShareAt.keep {K : PySem.W.Frag} {H H' : Hp} {t : Addr} {b : Gf.Bk} (e : LamX.ExtN H H') (h : ShareAt K H t b) : ShareAt K H' t b := ⟨sqT_keep e h.1, h.2⟩
theorem BookAt.keep {K : PySem.W.Frag} {H H' : Hp} {a : Addr} {b : Gf.Bk} (e : LamX.ExtN H H') (h : BookAt K H a b) : BookAt K H' a b := by
  obtain ⟨dx, t, h1, h2⟩ := h
  exact ⟨dx, t, keep_ins e h1, h2.keep e⟩
def spShare (K : PySem.W.Frag) : Sp := fun vs H Q _ => ∃ (t : Addr) (b : Gf.Bk), vs = [.ref t] ∧ ShareAt K H t b ∧ Q (.bl true) H
def spPart (K : PySem.W.Frag) : Sp := fun vs H Q _ => ∃ (t : Addr) (b : Gf.Bk) (h : Int), vs = [.ref t, .int h] ∧ ShareAt K H t b ∧ Q (.int (Gf.partOf b h)) H
def spParts (K : PySem.W.Frag) : Sp := fun vs H Q _ => ∃ (t : Addr) (b : Gf.Bk) (z : V), vs = [.int b.first, .int b.roof, .ref t, z] ∧ ShareAt K H t b ∧ (1 ≤ b.first ∧ b.first ≤ 1000 ∧ b.first ≤ b.roof ∧ b.roof ≤ 1000) ∧ Q .non H
def spBookI (K : PySem.W.Frag) : Sp := fun vs H Q _ => ∃ (x dx t : Addr) (b : Gf.Bk), vs = [.ref x, .int b.first, .int b.roof, .ref t] ∧ H x = some (.ins 593 dx []) ∧ ShareAt K H t b ∧ (1 ≤ b.first ∧ b.first ≤ 1000 ∧ b.first ≤ b.roof ∧ b.roof ≤ 1000) ∧ Q .non (upd H x (.ins 593 dx (bookFs b t)))
def spFirst (K : PySem.W.Frag) : Sp := fun vs H Q _ => ∃ (a : Addr) (b : Gf.Bk), vs = [.ref a] ∧ BookAt K H a b ∧ Q (.int b.first) H
def spGiven (K : PySem.W.Frag) : Sp := fun vs H Q _ => ∃ (a : Addr) (b : Gf.Bk) (h : Int), vs = [.ref a, .int h] ∧ BookAt K H a b ∧ Q (.int (Gf.stepB b h)) H
def spStep (K : PySem.W.Frag) : Sp := fun vs H Q _ => ∃ (a : Addr) (b : Gf.Bk) (h : Int), vs = [.ref a, .int h] ∧ BookAt K H a b ∧ (0 ≤ h ∧ h ≤ 10000) ∧ Q (.int (Gf.stepB b h)) H
def spCallB (K : PySem.W.Frag) : Sp := fun vs H Q _ => ∃ (a : Addr) (b : Gf.Bk) (h n : Int), vs = [.ref a, .int h, .int n] ∧ BookAt K H a b ∧ (0 ≤ h ∧ h ≤ 10000) ∧ (1 ≤ n ∧ n ≤ 100000) ∧ Q (.int (if Gf.stepB b h > n then Gf.stepB b h else n)) H
def spTwinB (K : PySem.W.Frag) : Sp := fun vs H Q _ => ∃ (a : Addr) (b : Gf.Bk), vs = [.ref a] ∧ BookAt K H a b ∧ (1 ≤ b.first ∧ b.first ≤ 1000 ∧ b.first ≤ b.roof ∧ b.roof ≤ 1000) ∧ ∀ H' a', Same H H' → H a' = none → BookAt K H' a' b → Q (.ref a') H'
section
variable {P : Program} {w : World} {K : PySem.W.Frag} {mg : Str → Option Value} {base : Heap}
theorem ok_is_integer (T : Txt K mg) : CalW P w K mg base 1 "is_integer" spInt := by
  refine calW_of T.f_is_integer T.g_is_integer sc_is_integer (fun _ _ _ _ _ _ us hl => match us, hl with | [_, _, _], _ => rfl) (fun vs H Q E h => by obtain ⟨a, l, m, rfl, h1, h2, q⟩ := h; rfl) fun cdv A outer s H vs Q E c pn hw hr h => ?_
  obtain ⟨a, l, m, rfl, h1, h2, q⟩ := h
  refine ⟨_, (pss_one (ps_ret (pe_and (pe_callB call_isB rfl T.b_isinstance (by decide +kernel) (pa_cons (pv 0) (pa_cons (pe_bltn (v := .ty "int") rfl T.b_int (by decide +kernel) rfl) pa_nil))) (pe_and (pe_not (pe_callB call_isB rfl T.b_isinstance (by decide +kernel) (pa_cons (pv 0) (pa_cons (pe_bltn (v := .ty "bool") rfl T.b_bool (by decide +kernel) rfl) pa_nil)))) (pe_one (pe_chain op_le op_le (pv 1) (pv 0) (pv 2))))))), ?_⟩
  refine ⟨_, rfl, _, _, true, rfl, isi_int, true, rfl, iteT ?_⟩
  refine ⟨_, rfl, _, _, false, rfl, isi_intb, false, rfl, true, rfl, iteT ?_⟩
  refine ⟨_, rfl, _, rfl, _, _, rfl, rfl, _, rfl, ?_⟩
  exact ifT h1 ⟨_, rfl, _, _, rfl, rfl, q_bl h2 q⟩
theorem ok_check_integer (T : Txt K mg) : CalC P w K mg base 2 "check_integer" spChk := by
  refine calC_of T.f_check_integer T.g_check_integer sc_check_integer (fun _ _ _ _ _ _ us hl => match us, hl with | [_, _, _], _ => rfl) (fun vs H Q E h => by obtain ⟨a, l, m, rfl, h1, h2, q⟩ := h; rfl) fun cdv A outer s H vs Q E hr h => ?_
  obtain ⟨a, l, m, rfl, h1, h2, q⟩ := h
  refine ⟨_, (pss_one (ps_if (pt_not (pt_val (pe_cc (ok_is_integer T).c hr (by decide) rfl (pa_cons (pv 0) (pa_cons (pv 1) (pa_cons (pv 2) pa_nil))))))
    (pss_one ps_never)
    pss_nil)), ?_⟩
  refine ⟨_, rfl, _, rfl, _, rfl, _, _, _, rfl, h1, h2, true, rfl, ?_⟩
  exact iteF q
theorem ok_check_blocks (T : Txt K mg) : CalC P w K mg base 3 "check_blocks" spBlocks := by
  refine calC_of T.f_check_blocks T.g_check_blocks sc_check_blocks (fun _ _ _ _ _ _ us hl => match us, hl with | [_, _, _], _ => rfl) (fun vs H Q E h => by obtain ⟨a, b, l, rfl, h1, h2, q⟩ := h; rfl) fun cdv A outer s H vs Q E hr h => ?_
  obtain ⟨a, b, l, rfl, h1, h2, q⟩ := h
  refine ⟨_, (pss_cons (ps_expr (pe_cc (ok_check_integer T) hr (by decide) rfl (pa_cons (pv 0) (pa_cons pe_int (pa_cons (pe_gi rfl T.v_MOST_BLOCKS_refusals) pa_nil)))))
  (pss_one (ps_expr (pe_cc (ok_check_integer T) hr (by decide) rfl (pa_cons (pv 1) (pa_cons (pv 2) (pa_cons (pe_gi rfl T.v_MOST_FILES) pa_nil))))))), ?_⟩
  refine ⟨_, rfl, _, _, _, rfl, h1.1, h1.2, ?_⟩
  exact ⟨_, rfl, _, rfl, _, _, _, rfl, h2.1, h2.2, q⟩
theorem ok_is_share (T : Txt K mg) : CalC P w K mg base 2 "is_share" (spShare K) := by
  refine calC_of T.f_is_share T.g_is_share sc_is_share (fun _ _ _ _ _ _ us hl => match us, hl with | [_], _ => rfl) (fun vs H Q E h => by obtain ⟨t, b, rfl, h, q⟩ := h; rfl) fun cdv A outer s H vs Q E hr h => ?_
  obtain ⟨t, b, rfl, h, q⟩ := h
  refine ⟨_, (pss_cons (ps_if (PW.pt (pw_or (pt_not (pt_val (pe_callB call_isB rfl T.b_isinstance (by decide +kernel) (pa_cons (pv 0) (pa_cons (pe_bltn (v := .ty "tuple") rfl T.b_tuple (by decide +kernel) rfl) pa_nil))))) (pw_or1 (pt_cmpR op_ne (pe_callB call_len_seq rfl T.b_len (by decide +kernel) (pa_cons (pv 0) pa_nil)) pe_int (nomark _)))))
    (pss_one (ps_ret pe_bl))
    pss_nil)
  (pss_one (ps_ret (pe_and (pe_cc (ok_is_integer T).c hr (by decide) rfl (pa_cons (pe_ix ix_tup (pv 0) pe_int (fun _ _ => rfl)) (pa_cons pe_int (pa_cons (pe_gi rfl T.v_MOST_SHARE) pa_nil)))) (pe_one (pe_cc (ok_is_integer T).c hr (by decide) rfl (pa_cons (pe_ix ix_tup (pv 0) pe_int (fun _ _ => rfl)) (pa_cons pe_int (pa_cons (pe_gi rfl T.v_MOST_SHARE) pa_nil))))))))), ?_⟩
  obtain ⟨ht, h1, h2⟩ := h
  refine ⟨_, rfl, _, _, true, rfl, isi_tup ht, true, rfl, iteF ?_⟩
  refine ⟨_, rfl, _, _, rfl, .inr ht, rfl, _, rfl, iteF ?_⟩
  refine ⟨_, rfl, _, _, _, _, rfl, rfl, ht, atI_nat rfl, _, _, _, rfl, h1.1, h1.2, true, rfl, iteT ?_⟩
  exact ⟨_, rfl, _, _, _, _, rfl, rfl, ht, atI_nat rfl, _, _, _, rfl, h2.1, h2.2, q⟩
theorem ok_part_of (T : Txt K mg) : CalC P w K mg base 1 "part_of" (spPart K) := by
  refine calC_of T.f_part_of T.g_part_of sc_part_of (fun _ _ _ _ _ _ us hl => match us, hl with | [_, _], _ => rfl) (fun vs H Q E h => by obtain ⟨t, b, h, rfl, ht, q⟩ := h; rfl) fun cdv A outer s H vs Q E hr h => ?_
  obtain ⟨t, b, h, rfl, ht, q⟩ := h
  refine ⟨_, (pss_cons (ps_asg (pv 0) (pg_tup rfl (pgs_cons (pg_name (i := 2) sc_part_of.nd rfl (Or.inl rfl)) (pgs_cons (pg_name (i := 3) sc_part_of.nd rfl (Or.inl rfl)) pgs_nil))))
  (pss_one (ps_ret (pe_un un_neg (pe_op op_fdiv (pe_op op_mul (pe_un un_neg (pv 1)) (pv 2)) (pv 3)))))), ?_⟩
  obtain ⟨ht, h1, h2⟩ := ht
  refine ⟨_, rfl, t, _, rfl, ht, rfl, _, _, rfl, _, _, rfl, rfl, ?_⟩
  refine ⟨_, rfl, _, rfl, _, rfl, _, _, rfl, rfl, .inr ⟨by omega, by omega⟩, _, rfl, _, _, rfl, rfl, ⟨by omega, by omega⟩, _, rfl, ?_⟩
  exact q
theorem ok_check_parts (T : Txt K mg) : CalC P w K mg base 3 "check_parts" (spParts K) := by
  refine calC_of T.f_check_parts T.g_check_parts sc_check_parts (fun _ _ _ _ _ _ us hl => match us, hl with | [_, _, _, _], _ => rfl) (fun vs H Q E h => by obtain ⟨t, b, z, rfl, ht, hb, q⟩ := h; rfl) fun cdv A outer s H vs Q E hr h => ?_
  obtain ⟨t, b, z, rfl, ht, hb, q⟩ := h
  refine ⟨_, (pss_cons (ps_if (pt_not (pt_val (pe_cc (ok_is_integer T).c hr (by decide) rfl (pa_cons (pv 0) (pa_cons pe_int (pa_cons (pe_gi rfl T.v_MOST_GROWTH) pa_nil))))))
    (pss_one ps_never)
    pss_nil)
  (pss_cons (ps_if (PW.pt (pw_or (pt_not (pt_val (pe_cc (ok_is_integer T).c hr (by decide) rfl (pa_cons (pv 1) (pa_cons pe_int (pa_cons (pe_gi rfl T.v_MOST_GROWTH) pa_nil)))))) (pw_or1 (pt_cmpR op_lt (pv 1) (pv 0) (nomark _)))))
    (pss_one ps_never)
    pss_nil)
  (pss_one (ps_if (pt_not (pt_val (pe_cc (ok_is_share T) hr (by decide) rfl (pa_cons (pv 2) pa_nil))))
    (pss_one ps_never)
    pss_nil)))), ?_⟩
  refine ⟨_, rfl, _, _, _, rfl, hb.1, by omega, true, rfl, iteF ?_⟩
  refine ⟨_, rfl, _, _, _, rfl, by omega, by omega, true, rfl, iteF ?_⟩
  refine ⟨_, rfl, _, rfl, _, _, rfl, rfl, _, rfl, ifF (by omega) ?_⟩
  exact ⟨_, rfl, _, _, rfl, ht, true, rfl, iteF q⟩
theorem fn_Book_init (T : Txt K mg) {fd : FuncData} (F : FunD K "__init__" "Book.__init__" (defArgs s_Book_init) (defBody s_Book_init) (defScope s_Book_init) [] [("share", .ref 452)] 460 fd) : FnOk P w K mg base CX0 4 460 fd ["self", "first", "roof", "share"] (spBookI K) := by
  refine okC F sc_Book_init (fun vs H Q E h => by obtain ⟨x, dx, t, b, rfl, hx, ht, hb, q⟩ := h; rfl) fun cdv A outer s H vs Q E hr h => ?_
  obtain ⟨x, dx, t, b, rfl, hx, ht, hb, q⟩ := h
  refine ⟨_, (pss_cons (ps_expr (pe_cc (ok_check_parts T) hr (by decide) rfl (pa_cons (pv 1) (pa_cons (pv 2) (pa_cons (pv 3) (pa_cons pe_str pa_nil))))))
  (pss_cons (ps_fld (pv 0) (pv 1) rfl)
  (pss_cons (ps_fld (pv 0) (pv 2) rfl)
  (pss_one (ps_fld (pv 0) (pv 3) rfl))))), ?_⟩
  refine ⟨_, rfl, _, rfl, _, rfl, t, b, _, rfl, ht, hb, ?_⟩
  refine ⟨_, rfl, _, rfl, _, _, _, _, rfl, hx, T.c_Book, T.n_Book_own_first, by decide, ?_⟩
  refine ⟨_, rfl, _, rfl, _, _, _, _, rfl, upd_same, T.c_Book, T.n_Book_own_roof, (by show 1 < 1000; decide), ?_⟩
  refine ⟨_, rfl, _, rfl, _, _, _, _, rfl, upd_same, T.c_Book, T.n_Book_own_share, (by show 2 < 1000; decide), ?_⟩
  show Q .non (upd (upd (upd H x _) x _) x (.ins 593 dx (bookFs b t)))
  rw [upd_upd, upd_upd]
  exact q
theorem ok_Book_init (T : Txt K mg) : MakK P w K mg base 4 "Book" 593 2 ["share"] (fun vs zs => vs ++ ([] ++ zs)) (spBookI K) := by
  obtain ⟨fd, F⟩ := T.f_Book_init
  obtain ⟨mv, b⟩ := FunD.kbinds0 (ps := ["self", "first", "roof", "share"]) F 3 ["share"] [] (fun vs mz zs => vs ++ (mz ++ zs)) (by simp) (by simp) (fun r1 r2 r3 => r1.append (r2.append r3)) (fun D doc pm an cdv ct us mv ws h1 h2 h3 => match us, mv, ws, h1, h2, h3 with | [_, _, _], [], [_], _, _, _ => rfl)
  exact ⟨460, fd, _, _, T.k_Book, fn_Book_init T F, T.g_Book, b⟩
theorem ok_Book_first (T : Txt K mg) : PrpC P w K mg base 1 593 "first" (spFirst K) := by
  refine prpC_of T.f_Book_first T.c_Book T.p_Book_first sc_Book_first (fun _ _ _ _ _ _ us hl => match us, hl with | [_], _ => rfl) (fun vs H Q E h => by obtain ⟨a, b, rfl, ⟨dx, t, ha, ht⟩, q⟩ := h; rfl) fun cdv A outer s H vs Q E hr h => ?_
  obtain ⟨a, b, rfl, ⟨dx, t, ha, ht⟩, q⟩ := h
  refine ⟨_, (pss_one (ps_ret (pe_fld (pv 0) rfl))), ?_⟩
  exact ⟨_, rfl, _, _, _, _, _, rfl, ha, T.c_Book, T.n_Book_own_first, rfl, q⟩
theorem ok_Book_given (T : Txt K mg) : MetC P w K mg base 2 593 "given" (spGiven K) := by
  refine metC_of T.f_Book_given T.c_Book T.m_Book_given sc_Book_given (fun _ _ _ _ _ _ us hl => match us, hl with | [_, _], _ => rfl) (fun vs H Q E h => by obtain ⟨a, b, h, rfl, ⟨dx, t, ha, ht⟩, q⟩ := h; rfl) fun cdv A outer s H vs Q E hr h => ?_
  obtain ⟨a, b, h, rfl, ⟨dx, t, ha, ht⟩, q⟩ := h
  refine ⟨_, (pss_cons (ps_set (i := 2) sc_Book_given.nd rfl (Or.inl rfl) (pe_cc (ok_part_of T) hr (by decide) rfl (pa_cons (pe_fld (pv 0) rfl) (pa_cons (pv 1) pa_nil))))
  (pss_cons (ps_if (pt_cmpR op_lt (pv 2) (pe_fld (pv 0) rfl) (nomark _))
    (pss_one (ps_ret (pe_fld (pv 0) rfl)))
    pss_nil)
  (pss_one (ps_ret (pe_ifExp (pt_cmpR op_lt (pv 2) (pe_fld (pv 0) rfl) (nomark _)) (pv 2) (pe_fld (pv 0) rfl)))))), ?_⟩
  have fld : ∀ {f : Str} {v : V}, (bookFs b t).lookup f = some v → True := fun _ => trivial
  refine ⟨_, rfl, _, _, _, _, _, rfl, ha, T.c_Book, T.n_Book_own_share, rfl, _, rfl, t, b, _, rfl, ht, ?_⟩
  refine ⟨_, rfl, _, rfl, _, _, _, _, _, rfl, ha, T.c_Book, T.n_Book_own_first, rfl, _, _, rfl, rfl, _, rfl, ?_⟩
  refine if2 (fun c => ?_) (fun c => ?_)
  · refine ⟨_, rfl, _, _, _, _, _, rfl, ha, T.c_Book, T.n_Book_own_first, rfl, ?_⟩
    show Q (.int b.first) H
    unfold Gf.stepB at q
    rw [if_pos c] at q
    exact q
  · refine ⟨_, rfl, _, rfl, _, _, _, _, _, rfl, ha, T.c_Book, T.n_Book_own_roof, rfl, _, _, rfl, rfl, _, rfl, ?_⟩
    unfold Gf.stepB at q
    rw [if_neg c] at q
    refine if2 (fun c2 => ?_) (fun c2 => ?_)
    · rw [if_pos c2] at q
      exact ⟨_, rfl, q⟩
    · rw [if_neg c2] at q
      exact ⟨_, rfl, _, _, _, _, _, rfl, ha, T.c_Book, T.n_Book_own_roof, rfl, q⟩
theorem ok_Book_step (T : Txt K mg) : MetC P w K mg base 3 593 "step" (spStep K) := by
  refine metC_of T.f_Book_step T.c_Book T.m_Book_step sc_Book_step (fun _ _ _ _ _ _ us hl => match us, hl with | [_, _], _ => rfl) (fun vs H Q E h => by obtain ⟨a, b, h, rfl, ⟨dx, t, ha, ht⟩, hh, q⟩ := h; rfl) fun cdv A outer s H vs Q E hr h => ?_
  obtain ⟨a, b, h, rfl, ⟨dx, t, ha, ht⟩, hh, q⟩ := h
  refine ⟨_, (pss_cons (ps_expr (pe_cc (ok_check_integer T) hr (by decide) rfl (pa_cons (pv 1) (pa_cons pe_int (pa_cons (pe_gi rfl T.v_MOST) pa_nil)))))
  (pss_one (ps_ret (pe_mtc (ok_Book_given T) hr (by decide) (pv 0) (pa_cons (pv 1) pa_nil))))), ?_⟩
  refine ⟨_, rfl, _, _, _, rfl, by omega, by omega, ?_⟩
  exact ⟨_, rfl, _, dx, _, rfl, ha, rfl, _, rfl, _, b, _, rfl, ⟨dx, t, ha, ht⟩, q⟩
theorem ok_Book_call (T : Txt K mg) : SpcC P w K mg base 3 593 "__call__" (spCallB K) := by
  refine spcC_of T.f_Book_call T.s_Book_call sc_Book_call (fun _ _ _ _ _ _ us hl => match us, hl with | [_, _, _], _ => rfl) (fun vs H Q E h => by obtain ⟨a, b, h, n, rfl, ⟨dx, t, ha, ht⟩, hh, hn, q⟩ := h; rfl) fun cdv A outer s H vs Q E hr h => ?_
  obtain ⟨a, b, h, n, rfl, ⟨dx, t, ha, ht⟩, hh, hn, q⟩ := h
  refine ⟨_, (pss_cons (ps_expr (pe_cc (ok_check_integer T) hr (by decide) rfl (pa_cons (pv 1) (pa_cons pe_int (pa_cons (pe_gi rfl T.v_MOST) pa_nil)))))
  (pss_cons (ps_expr (pe_cc (ok_check_integer T) hr (by decide) rfl (pa_cons (pv 2) (pa_cons pe_int (pa_cons (pe_gi rfl T.v_MOST) pa_nil)))))
  (pss_cons (ps_set (i := 3) sc_Book_call.nd rfl (Or.inl rfl) (pe_mtc (ok_Book_given T) hr (by decide) (pv 0) (pa_cons (pv 1) pa_nil)))
  (pss_one (ps_ret (pe_ifExp (pt_cmpR op_gt (pv 3) (pv 2) (nomark _)) (pv 3) (pv 2))))))), ?_⟩
  refine ⟨_, rfl, _, _, _, rfl, by omega, by omega, ?_⟩
  refine ⟨_, rfl, _, _, _, rfl, by omega, by omega, ?_⟩
  refine ⟨_, rfl, _, dx, _, rfl, ha, rfl, _, rfl, _, b, _, rfl, ⟨dx, t, ha, ht⟩, ?_⟩
  refine ⟨_, rfl, _, rfl, _, _, rfl, rfl, _, rfl, ?_⟩
  refine if2 (fun c => ⟨_, rfl, ?_⟩) (fun c => ⟨_, rfl, ?_⟩)
  · rw [if_pos c] at q
    exact q
  · rw [if_neg c] at q
    exact q
theorem ok_Book_twin (T : Txt K mg) : MetC P w K mg base 6 593 "twin" (spTwinB K) := by
  refine metC_of T.f_Book_twin T.c_Book T.m_Book_twin sc_Book_twin (fun _ _ _ _ _ _ us hl => match us, hl with | [_], _ => rfl) (fun vs H Q E h => by obtain ⟨a, b, rfl, ⟨dx, t, ha, ht⟩, hb, q⟩ := h; rfl) fun cdv A outer s H vs Q E hr h => ?_
  obtain ⟨a, b, rfl, ⟨dx, t, ha, ht⟩, hb, q⟩ := h
  refine ⟨_, (pss_one (ps_ret (pe_mkk (ok_Book_init T) hr (by decide) rfl (pa_cons (pe_fld (pv 0) rfl) (pa_cons (pe_fld (pv 0) rfl) pa_nil)) (pk_cons (pe_fld (pv 0) rfl) pk_nil)))), ?_⟩
  refine ⟨_, rfl, _, _, _, _, _, rfl, ha, T.c_Book, T.n_Book_own_first, rfl, _, rfl, _, _, _, _, _, rfl, ha, T.c_Book, T.n_Book_own_roof, rfl, _, rfl, _, _, _, _, _, rfl, ha, T.c_Book, T.n_Book_own_share, rfl, rfl, rfl, fun x d nx nd ne => ?_⟩
  have e1 : Same H (upd (upd H d (.own x)) x (.ins 593 d [])) := fun c o e => by rw [upd_ne (ne_of_none e nx), upd_ne (ne_of_none e nd)]; exact e
  refine ⟨x, d, t, b, rfl, upd_same, ht.keep (same_ext e1), hb, rfl, ?_⟩
  have e2 : Same H (upd (upd (upd H d (.own x)) x (.ins 593 d [])) x (.ins 593 d (bookFs b t))) := fun c o e => by rw [upd_ne (ne_of_none e nx)]; exact e1 c o e
  exact q _ _ e2 nx ⟨d, t, upd_same, ht.keep (same_ext e2)⟩
end
end Gt
/-! ## GfK2 -/
set_option Elab.async false
set_option linter.all false
set_option maxRecDepth 100000
set_option maxHeartbeats 4000000
namespace Gt
open PySem PySem.Spec PyProof.Rows L2 Wm
/-! ### snapshots: what stands while some objects change -/
structure Snap (H0 : Hp) (ds : List Addr) (G H : Hp) : Prop where
  old : Same H0 G
  sub : Same G H
  no : ∀ d ∈ ds, G d = none
theorem Snap.of {H0 : Hp} {ds : List Addr} (h : ∀ d ∈ ds, H0 d = none) {H : Hp} (s : Same H0 H) : Snap H0 ds H0 H := ⟨Same.refl _, s, h⟩
theorem Snap.put {H0 G H : Hp} {ds : List Addr} {d : Addr} {o : HO} (s : Snap H0 ds G H) (hd : d ∈ ds) : Snap H0 ds G (upd H d o) :=
  ⟨s.old, fun b u e => by rw [upd_ne (fun z => by rw [z, s.no d hd] at e; cases e)]; exact s.sub b u e, s.no⟩
theorem Snap.skip {H0 G H : Hp} {ds : List Addr} {p : Addr} {o : HO} (s : Snap H0 ds G H) (hp : H p = none) : Snap H0 ds G (upd H p o) := ⟨s.old, s.sub.trans (same_upd hp), s.no⟩
theorem Snap.to {H0 G H H' : Hp} {ds : List Addr} (s : Snap H0 ds G H) (e : Same H H') : Snap H0 ds G H' := ⟨s.old, s.sub.trans e, s.no⟩
/-- a new object is known from now on -/
theorem Snap.add {H0 G H : Hp} {ds : List Addr} {p : Addr} {o : HO} (s : Snap H0 ds G H) (hp : H p = none) (hds : ∀ d ∈ ds, d ≠ p) : Snap H0 ds (upd G p o) (upd H p o) := by
  have gp : G p = none := s.sub.free hp
  refine ⟨s.old.trans (same_upd gp), fun b u e => ?_, fun d hd => ?_⟩
  · by_cases hb : b = p
    · subst hb
      rw [upd_same] at e ⊢
      exact e
    · rw [upd_ne hb] at e ⊢
      exact s.sub b u e
  · rw [upd_ne (hds d hd)]
    exact s.no d hd
/-- one of them is finished: it is known from now on -/
theorem Snap.fin {H0 G H : Hp} {ds : List Addr} {p : Addr} {o : HO} (s : Snap H0 (p :: ds) G H) (hp : H p = some o) (hds : ∀ d ∈ ds, d ≠ p) : Snap H0 ds (upd G p o) H := by
  have gp : G p = none := s.no p List.mem_cons_self
  refine ⟨s.old.trans (same_upd gp), fun b u e => ?_, fun d hd => ?_⟩
  · by_cases hb : b = p
    · subst hb
      rw [upd_same] at e
      rw [hp]
      exact e
    · rw [upd_ne hb] at e
      exact s.sub b u e
  · rw [upd_ne (hds d hd)]
    exact s.no d (List.mem_cons_of_mem _ hd)
theorem Snap.more {H0 G H : Hp} {ds : List Addr} {p : Addr} (s : Snap H0 ds G H) (hp : G p = none) : Snap H0 (p :: ds) G H := ⟨s.old, s.sub, fun d hd => by
  rcases List.mem_cons.mp hd with e | e
  · rw [e]; exact hp
  · exact s.no d e⟩
theorem Snap.all {H0 G H : Hp} {ds : List Addr} (s : Snap H0 ds G H) : Same H0 H := s.old.trans s.sub
theorem paired_mono {α β : Type} {R S : α → β → Prop} : ∀ {as : List α} {bs : List β}, Paired R as bs → (∀ a b, R a b → S a b) → Paired S as bs
  | _, _, .nil, _ => .nil
  | _, _, .cons r t, h => .cons (h _ _ r) (paired_mono t h)
theorem paired_snoc {α β : Type} {R : α → β → Prop} {a : α} {b : β} (r : R a b) : ∀ {as : List α} {bs : List β}, Paired R as bs → Paired R (as ++ [a]) (bs ++ [b])
  | _, _, .nil => .cons r .nil
  | _, _, .cons q t => .cons q (paired_snoc r t)
theorem paired_at {α β : Type} {R : α → β → Prop} : ∀ {as : List α} {bs : List β} {i : Nat} {a : α}, Paired R as bs → as[i]? = some a → ∃ b, bs[i]? = some b ∧ R a b
  | _, _, _, _, .nil, h => by simp at h
  | _, _, 0, a, .cons r _, h => by
    have e := Option.some.inj h
    subst e
    exact ⟨_, rfl, r⟩
  | _, _, i + 1, a, .cons _ t, h => paired_at (i := i) t (by simpa using h)
theorem paired_at' {α β : Type} {R : α → β → Prop} : ∀ {as : List α} {bs : List β} {i : Nat} {b : β}, Paired R as bs → bs[i]? = some b → ∃ a, as[i]? = some a ∧ R a b
  | _, _, _, _, .nil, h => by simp at h
  | _, _, 0, a, .cons r _, h => by
    have e := Option.some.inj h
    subst e
    exact ⟨_, rfl, r⟩
  | _, _, i + 1, a, .cons _ t, h => paired_at' (i := i) t (by simpa using h)
theorem paired_set {α β : Type} {R : α → β → Prop} {a : α} {b : β} (r : R a b) : ∀ {as : List α} {bs : List β} (i : Nat), Paired R as bs → Paired R (as.set i a) (bs.set i b)
  | _, _, _, .nil => .nil
  | _, _, 0, .cons _ t => .cons r t
  | _, _, i + 1, .cons q t => .cons q (paired_set r i t)
theorem paired_len {α β : Type} {R : α → β → Prop} {as : List α} {bs : List β} (h : Paired R as bs) : as.length = bs.length := Paired.length h
/-! ### the book's own calls -/
theorem rd_first {K : PySem.W.Frag} {σ : L2.St} {H : Hp} {Q : VK} {i : Nat} {a : Addr} {b : Gf.Bk} (hb : BookAt K H a b) (hs : σ[i]? = some (some (.ref a))) (q : Q (.int b.first) H) : tProp 593 (spFirst K) [] E0 (tVar i) σ H Q := by
  obtain ⟨dx, t, ha, ht⟩ := hb
  exact ⟨_, hs, a, dx, _, rfl, ha, a, b, rfl, ⟨dx, t, ha, ht⟩, q⟩
theorem rd_step {K : PySem.W.Frag} {σ : L2.St} {H : Hp} {Q : VK} {i j : Nat} {a : Addr} {b : Gf.Bk} {h : Int} (hb : BookAt K H a b) (hs : σ[i]? = some (some (.ref a))) (hj : σ[j]? = some (some (.int h))) (hh : 0 ≤ h ∧ h ≤ 10000) (q : Q (.int (Gf.stepB b h)) H) :
    tMeth 593 "step" (spStep K) [] E0 (tVar i) (tCons (tVar j) tNil) σ H Q := by
  obtain ⟨dx, t, ha, ht⟩ := hb
  exact ⟨_, hs, a, dx, _, rfl, ha, rfl, _, hj, a, b, h, rfl, ⟨dx, t, ha, ht⟩, hh, q⟩
/-! ### whole choices -/
def ChR (K : PySem.W.Frag) (G : Hp) : List (Key × V) → List Gf.Ch → Prop := Paired fun kv c => kv.1 = .inl c.1 ∧ ∃ t l, kv.2 = .ref t ∧ SqT K G t [.int c.2.1, .ref l] ∧ SqL K G l (c.2.2.map V.int)
theorem ChR.keep {K : PySem.W.Frag} {G G' : Hp} {kvs : List (Key × V)} {L : List Gf.Ch} (e : LamX.ExtN G G') (h : ChR K G kvs L) : ChR K G' kvs L :=
  paired_mono h fun kv c ⟨h1, t, l, h2, h3, h4⟩ => ⟨h1, t, l, h2, sqT_keep e h3, sqL_keep e h4⟩
theorem putK_cons {j k : Key} {x v : V} {r : List (Key × V)} : L2.putK ((j, x) :: r) k v = if j = k then (j, v) :: r.map (fun kv => if kv.1 = k then (kv.1, v) else kv) else (j, x) :: L2.putK r k v := by
  unfold L2.putK
  by_cases h : j = k
  · rw [if_pos h]
    simp [h]
  · rw [if_neg h]
    by_cases c : (r.any fun kv => decide (kv.1 = k)) = true
    · simp [h, c]
    · simp [h, c]
theorem map_same {k : Key} {v : V} : ∀ {r : List (Key × V)}, k ∉ r.map (·.1) → r.map (fun kv => if kv.1 = k then (kv.1, v) else kv) = r
  | [], _ => rfl
  | p :: r, h => by
    have h1 : ¬ p.1 = k := fun z => h (by rw [List.map_cons, z]; exact List.mem_cons_self)
    rw [List.map_cons, if_neg h1, map_same fun z => h (by rw [List.map_cons]; exact List.mem_cons_of_mem _ z)]
theorem ChR.put {K : PySem.W.Frag} {G : Hp} {k i : Int} {g : List Int} {v : V} {t l : Addr} (hv : v = .ref t) (ht : SqT K G t [.int i, .ref l]) (hl : SqL K G l (g.map V.int)) : ∀ {kvs : List (Key × V)} {L : List Gf.Ch}, ChR K G kvs L → (kvs.map (·.1)).Nodup → ChR K G (L2.putK kvs (.inl k) v) (Gf.putK k (i, g) L)
  | _, _, .nil, _ => .cons ⟨rfl, t, l, hv, ht, hl⟩ .nil
  | (j, x) :: kvs, (j', y) :: L, .cons ⟨h1, h2⟩ r, nd => by
    have h1' : j = .inl j' := h1
    subst h1'
    obtain ⟨n1, n2⟩ := List.nodup_cons.mp nd
    rw [putK_cons]
    show ChR K G _ (if j' = k then (j', (i, g)) :: L else (j', y) :: Gf.putK k (i, g) L)
    by_cases c : j' = k
    · subst c
      rw [if_pos rfl, if_pos rfl, map_same n1]
      exact .cons ⟨rfl, t, l, hv, ht, hl⟩ r
    · rw [if_neg (fun z => c (Sum.inl.inj z)), if_neg c]
      exact .cons ⟨rfl, h2⟩ (ChR.put hv ht hl r n2)
theorem keys_put {k : Key} {v : V} : ∀ {kvs : List (Key × V)}, (kvs.map (·.1)).Nodup → ((L2.putK kvs k v).map (·.1)).Nodup ∧ (L2.putK kvs k v).length ≤ kvs.length + 1 ∧ ∀ j, j ∈ (L2.putK kvs k v).map (·.1) → j = k ∨ j ∈ kvs.map (·.1)
  | [], _ => ⟨by simp [L2.putK], by simp [L2.putK], fun j hj => .inl (by simpa [L2.putK] using hj)⟩
  | (j, x) :: kvs, nd => by
    obtain ⟨n1, n2⟩ := List.nodup_cons.mp nd
    obtain ⟨i1, i2, i3⟩ := keys_put (k := k) (v := v) n2
    rw [putK_cons]
    by_cases c : j = k
    · rw [if_pos c]
      subst c
      rw [map_same n1]
      exact ⟨nd, by simp, fun z hz => .inr hz⟩
    · rw [if_neg c]
      refine ⟨List.nodup_cons.mpr ⟨fun z => ?_, i1⟩, by simpa using i2, fun z hz => ?_⟩
      · rcases i3 j z with e | e
        · exact c e
        · exact n1 e
      · rcases List.mem_cons.mp (show z ∈ j :: (L2.putK kvs k v).map (·.1) from hz) with e | e
        · exact .inr (by rw [e]; exact List.mem_cons_self)
        · rcases i3 z e with e | e
          · exact .inl e
          · exact .inr (List.mem_cons_of_mem _ e)
theorem ChR.get {K : PySem.W.Frag} {G : Hp} {k : Int} : ∀ {kvs : List (Key × V)} {L : List Gf.Ch}, ChR K G kvs L → (valV kvs (.inl k : Key) = none ∧ Gf.getK k L = none) ∨ ∃ t l x, valV kvs (.inl k : Key) = some (.ref t) ∧ Gf.getK k L = some x ∧ SqT K G t [.int x.1, .ref l] ∧ SqL K G l (x.2.map V.int)
  | _, _, .nil => .inl ⟨rfl, rfl⟩
  | (j, v) :: kvs, (j', y) :: L, .cons ⟨h1, t, l, h2, h3, h4⟩ r => by
    have h1' : j = .inl j' := h1
    subst h1'
    by_cases c : j' = k
    · refine .inr ⟨t, l, y, ?_, ?_, h3, h4⟩
      · rw [valV_pos (show (Sum.inl j' : Key) = Sum.inl k by rw [c])]
        exact congrArg some h2
      · show (if j' = k then some y else Gf.getK k L) = some y
        rw [if_pos c]
    · rcases ChR.get (k := k) r with ⟨a, b⟩ | ⟨t', l', x, a, b, z⟩
      · refine .inl ⟨?_, ?_⟩
        · rw [valV_neg (fun z : (Sum.inl j' : Key) = Sum.inl k => c (Sum.inl.inj z))]
          exact a
        · show (if j' = k then some y else Gf.getK k L) = none
          rw [if_neg c]
          exact b
      · refine .inr ⟨t', l', x, ?_, ?_, z⟩
        · rw [valV_neg (fun z : (Sum.inl j' : Key) = Sum.inl k => c (Sum.inl.inj z))]
          exact a
        · show (if j' = k then some y else Gf.getK k L) = some x
          rw [if_neg c]
          exact b
/-- the choices' dict -/
def ChAt (K : PySem.W.Frag) (H : Hp) (d : Addr) (L : List Gf.Ch) : Prop := ∃ kvs, H d = some (.dK kvs) ∧ ChR K H kvs L
/-- amid its making -/
def ChI (K : PySem.W.Frag) (H0 : Hp) (d : Addr) (H : Hp) (n : Nat) (L : List Gf.Ch) : Prop := ∃ kvs G, H d = some (.dK kvs) ∧ Snap H0 [d] G H ∧ ChR K G kvs L ∧ (kvs.map (·.1)).Nodup ∧ kvs.length ≤ n
theorem ChI.put {K : PySem.W.Frag} {H0 H : Hp} {d l t : Addr} {n : Nat} {k i : Int} {g : List Int} {L : List Gf.Ch} (c : ChI K H0 d H n L) (hl : H l = none) (ht : upd H l (.lst (g.map V.int)) t = none) (hn : n < 10000) :
    ∃ H2, DPut (upd (upd H l (.lst (g.map V.int))) t (.tup [.int i, .ref l])) d (.int k) (.ref t) H2 ∧ ChI K H0 d H2 (n + 1) (Gf.putK k (i, g) L) := by
  obtain ⟨kvs, G, hd, s, r, nd, hlen⟩ := c
  have dl : d ≠ l := ne_of_none hd hl
  have hd1 : upd H l (.lst (g.map V.int)) d = some (.dK kvs) := by rw [upd_ne dl]; exact hd
  have dt : d ≠ t := ne_of_none hd1 ht
  have s1 := s.add (o := .lst (g.map V.int)) hl fun z hz => by rw [List.mem_singleton.mp hz]; exact dl
  have s2 := s1.add (o := .tup [.int i, .ref l]) ht fun z hz => by rw [List.mem_singleton.mp hz]; exact dt
  have gt : upd G l (.lst (g.map V.int)) t = none := s1.sub.free ht
  have hd2 : upd (upd H l (.lst (g.map V.int))) t (.tup [.int i, .ref l]) d = some (.dK kvs) := by rw [upd_ne dt]; exact hd1
  refine ⟨_, DPut.k (k := .inl k) hd2 (by rw [sizeLine_eq]; omega), L2.putK kvs (.inl k) (.ref t), _, upd_same, s2.put (by simp), ?_, (keys_put nd).1, Nat.le_trans (keys_put nd).2.1 (Nat.succ_le_succ hlen)⟩
  have lt : l ≠ t := fun z => by rw [← z, upd_same] at ht; cases ht
  exact ChR.put rfl (.inl (.inl upd_same)) (.inl (.inl (by rw [upd_ne lt, upd_same]))) (r.keep (same_ext ((same_upd (s.sub.free hl)).trans (same_upd gt)))) nd
def spWhole (K : PySem.W.Frag) : Sp := fun vs H Q _ => ∃ (a : Addr) (b : Gf.Bk) (n : Int), vs = [.ref a, .int n] ∧ BookAt K H a b ∧ (1 ≤ b.first ∧ b.first ≤ b.roof ∧ b.roof ≤ 1000) ∧ (0 ≤ n ∧ n ≤ 300) ∧ ∀ H' d, Same H H' → H d = none → ChAt K H' d (Gf.wholeM b n) → Q (.ref d) H'
section
variable {P : Program} {w : World} {K : PySem.W.Frag} {mg : Str → Option Value} {base : Heap}
theorem ok_whole_choices (T : Txt K mg) : CalC P w K mg base 5 "whole_choices" (spWhole K) := by
  refine calC_of T.f_whole_choices T.g_whole_choices sc_whole_choices (fun _ _ _ _ _ _ us hl => match us, hl with | [_, _], _ => rfl) (fun vs H Q E h => by obtain ⟨a, b, n, rfl, hb, ok, hn, q⟩ := h; rfl) fun cdv A outer s H vs Q E hr h => ?_
  obtain ⟨a, b, n, rfl, hb, ok, hn, q⟩ := h
  have hu := hu_of hr
  refine ⟨_, (pss_cons (ps_set (i := 2) sc_whole_choices.nd rfl (Or.inl rfl) pe_dnewK)
  (C8.pss_cut (ps_if (pt_cmpR op_le (pe_prc (ok_Book_first T) hr (by decide) (pv 0)) (pv 1) (nomark _))
    (pss_one (ps_dput hu (pv 2) (pe_prc (ok_Book_first T) hr (by decide) (pv 0)) (pe_tup (pa_cons (pe_op op_sub (pe_prc (ok_Book_first T) hr (by decide) (pv 0)) pe_int) (pa_cons (pe_lst (pa_cons pe_int pa_nil)) pa_nil))) rfl))
    pss_nil)
  (pss_cons (ps_for PassesOwn.never rfl (pi_range2 rfl T.b_range (pa_cons (pe_prc (ok_Book_first T) hr (by decide) (pv 0)) (pa_cons (pv 1) pa_nil))) (pg_name (i := 3) sc_whole_choices.nd rfl (Or.inl rfl))
    (pss_cons (ps_set (i := 4) sc_whole_choices.nd rfl (Or.inl rfl) (pe_mtc (ok_Book_step T) hr (by decide) (pv 0) (pa_cons (pv 3) pa_nil)))
    (pss_cons (ps_set (i := 5) sc_whole_choices.nd rfl (Or.inl rfl) (pe_op op_add (pv 3) (pv 4)))
    (pss_one (ps_if (PW.pt (pw_and (pt_cmpR op_le (pv 5) (pv 1) (nomark _)) (pw_and1 (PW.pt (pw_or (pt_cmp (pc_dnotin hu (pv 5) (pv 2))) (pw_or1 (pt_cmpR op_lt (pe_ix ix_tup (pe_dget hu (pv 2) (pv 5) (fun _ _ => rfl)) pe_int (fun _ _ => rfl)) (pe_op op_sub (pv 4) pe_int) (nomark _))))))))
      (pss_one (ps_dput hu (pv 2) (pv 5) (pe_tup (pa_cons (pe_op op_sub (pv 4) pe_int) (pa_cons (pe_lst (pa_cons (pv 3) (pa_cons pe_int pa_nil))) pa_nil))) rfl))
      pss_nil)))))
  (pss_one (ps_ret (pv 2)))))), ?_⟩
  refine fun d nd => ?_
  have hb1 : BookAt K (upd H d (.dK [])) a b := hb.keep (same_ext (same_upd nd))
  refine ⟨fun σ' H' => (∃ x3 x4 x5, σ' = [some (.ref a), some (.int n), some (.ref d), x3, x4, x5]) ∧ ChI K H d H' 1 (Gf.wc0 b n), ?_, ?_⟩
  · refine rd_first hb1 rfl ⟨_, rfl, _, _, rfl, rfl, _, rfl, ?_⟩
    have c0 : ChI K H d (upd H d (.dK [])) 0 [] := ⟨[], H, upd_same, Snap.of (fun z hz => by rw [List.mem_singleton.mp hz]; exact nd) (same_upd nd), .nil, .nil, Nat.le_refl _⟩
    refine if2 (fun c => ?_) (fun c => ?_)
    · refine rd_first hb1 rfl ⟨_, _, rfl, rfl, ?_⟩
      refine ⟨(by show 1 ≤ sizeLine; decide), fun l hl => ⟨(by show 2 ≤ sizeLine; decide), fun t ht => ?_⟩⟩
      obtain ⟨H2, d2, c2⟩ := c0.put (k := b.first) (i := b.first - 1) (g := [1]) hl ht (by decide)
      have e2 : LamX.ExtN (upd H d (.dK [])) (upd (upd (upd H d (.dK [])) l (.lst [.int 1])) t (.tup [.int (b.first - 1), .ref l])) := same_ext ((same_upd hl).trans (same_upd ht))
      refine ⟨_, rfl, rd_first (hb1.keep e2) rfl ⟨d, H2, rfl, d2, ⟨_, _, _, rfl⟩, ?_⟩⟩
      unfold Gf.wc0
      rw [if_pos c]
      exact c2
    · refine ⟨⟨_, _, _, rfl⟩, ?_⟩
      unfold Gf.wc0
      rw [if_neg c]
      obtain ⟨kvs, G, h1, h2, h3, h4, h5⟩ := c0
      exact ⟨kvs, G, h1, h2, h3, h4, by omega⟩
  · rintro σ' H1 ⟨⟨x3, x4, x5, rfl⟩, c1⟩
    have bk : ∀ {H' : Hp} {m : Nat} {L : List Gf.Ch}, ChI K H d H' m L → BookAt K H' a b := fun {H' m L} c => by
      obtain ⟨kvs, G, h1, h2, h3⟩ := c
      exact hb.keep (same_ext h2.all)
    refine rd_first (bk c1) rfl ⟨_, rfl, b.first, n, rfl, ⟨by omega, by omega, by omega, by omega⟩, ?_⟩
    refine for_range (lo := b.first) (n := (n - b.first).toNat) (fun i σ H' => (∃ x3 x4 x5, σ = [some (.ref a), some (.int n), some (.ref d), x3, x4, x5]) ∧ ChI K H d H' (i + 1) (Gf.wcTo b n i)) ⟨⟨_, _, _, rfl⟩, c1⟩ ?_ ?_
    · rintro i σ H2 hi ⟨⟨x3, x4, x5, rfl⟩, c2⟩
      refine rd_step (bk c2) rfl rfl (by omega) ?_
      refine ⟨_, rfl, _, rfl, _, _, rfl, rfl, ?_⟩
      have st1 : Gf.wcTo b n (i + 1) = Gf.wcStep b n (Gf.wcTo b n i) (b.first + i) := rfl
      have skip : ¬ (b.first + (i : Int) + Gf.stepB b (b.first + i) ≤ n ∧ (∀ x, Gf.getK (b.first + i + Gf.stepB b (b.first + i)) (Gf.wcTo b n i) = some x → x.1 < Gf.stepB b (b.first + i) - 1)) → ChI K H d H2 (i + 1 + 1) (Gf.wcTo b n (i + 1)) := fun c => by
        rw [st1]
        unfold Gf.wcStep
        rw [if_neg c]
        obtain ⟨kvs, G, h1, h2, h3, h4, h5⟩ := c2
        exact ⟨kvs, G, h1, h2, h3, h4, by omega⟩
      have store : (b.first + (i : Int) + Gf.stepB b (b.first + i) ≤ n ∧ (∀ x, Gf.getK (b.first + i + Gf.stepB b (b.first + i)) (Gf.wcTo b n i) = some x → x.1 < Gf.stepB b (b.first + i) - 1)) → ∀ l t, H2 l = none → upd H2 l (.lst ([b.first + (i : Int), 1].map V.int)) t = none →
          ∃ H3, DPut (upd (upd H2 l (.lst ([b.first + (i : Int), 1].map V.int))) t (.tup [.int (Gf.stepB b (b.first + i) - 1), .ref l])) d (.int (b.first + i + Gf.stepB b (b.first + i))) (.ref t) H3 ∧ ChI K H d H3 (i + 1 + 1) (Gf.wcTo b n (i + 1)) := fun c l t hl ht => by
        obtain ⟨H3, d3, c3⟩ := c2.put (k := b.first + i + Gf.stepB b (b.first + i)) (i := Gf.stepB b (b.first + i) - 1) (g := [b.first + (i : Int), 1]) hl ht (by omega)
        refine ⟨H3, d3, ?_⟩
        rw [st1]
        unfold Gf.wcStep
        rw [if_pos c]
        exact c3
      refine ⟨_, rfl, _, rfl, _, _, rfl, rfl, _, rfl, if2 (fun c => ?_) (fun c => ?_)⟩
      · obtain ⟨kvs, G, h1, h2, h3, h4, h5⟩ := id c2
        refine ⟨_, rfl, _, rfl, d, _, rfl, DGet.k (k := Sum.inl (b.first + (i : Int) + Gf.stepB b (b.first + i))) h1, _, rfl, ?_⟩
        rcases h3.get (k := b.first + (i : Int) + Gf.stepB b (b.first + i)) with ⟨e1, e2⟩ | ⟨t0, l0, x, e1, e2, e3, e4⟩
        · rw [e1]
          refine iteT (iteT ?_)
          refine ⟨_, rfl, _, _, rfl, rfl, _, rfl, (by show 2 ≤ sizeLine; decide), fun l hl => ⟨(by show 2 ≤ sizeLine; decide), fun t ht => ?_⟩⟩
          obtain ⟨H3, d3, c3⟩ := store ⟨c, fun x hx => by rw [e2] at hx; cases hx⟩ l t hl ht
          exact ⟨_, rfl, _, rfl, d, H3, rfl, d3, ⟨_, _, _, rfl⟩, c3⟩
        · rw [e1]
          refine iteF ?_
          refine ⟨_, rfl, _, rfl, d, .ref t0, rfl, by rw [← e1]; exact DGet.k (k := Sum.inl (b.first + (i : Int) + Gf.stepB b (b.first + i))) h1, t0, _, _, _, rfl, rfl, sqT_keep (same_ext h2.sub) e3, atI_nat (j := 0) rfl, _, rfl, _, _, rfl, rfl, _, _, rfl, rfl, _, rfl, ?_⟩
          refine if2 (fun c3 => ?_) (fun c3 => ?_)
          · refine ⟨_, rfl, _, _, rfl, rfl, _, rfl, (by show 2 ≤ sizeLine; decide), fun l hl => ⟨(by show 2 ≤ sizeLine; decide), fun t ht => ?_⟩⟩
            obtain ⟨H3, d3, c4⟩ := store ⟨c, fun x' hx => by rw [e2] at hx; rw [← Option.some.inj hx]; exact c3⟩ l t hl ht
            exact ⟨_, rfl, _, rfl, d, H3, rfl, d3, ⟨_, _, _, rfl⟩, c4⟩
          · exact ⟨⟨_, _, _, rfl⟩, skip fun z => c3 (z.2 x e2)⟩
      · exact ⟨⟨_, _, _, rfl⟩, skip fun z => c z.1⟩
    · rintro σ H2 ⟨⟨x3, x4, x5, rfl⟩, kvs, G, h1, h2, h3, h4, h5⟩
      exact ⟨_, rfl, q H2 d h2.all nd ⟨kvs, h1, h3.keep (same_ext h2.sub)⟩⟩
end
end Gt
/-! ## GfK3 -/
set_option Elab.async false
set_option linter.all false
set_option maxRecDepth 100000
set_option maxHeartbeats 4000000
namespace Gt
open PySem PySem.Spec PyProof.Rows L2 Wm
/-! ### layers -/
def optI : Option Int → V
  | none => .non
  | some i => .int i
def GV (K : PySem.W.Frag) (G : Hp) (v : V) : Option (List Int) → Prop
  | none => v = .non
  | some g => ∃ l, v = .ref l ∧ SqL K G l (g.map V.int)
def CellV (K : PySem.W.Frag) (G : Hp) (v : V) : Option Gf.Cell → Prop
  | none => v = .non
  | some c => ∃ t gv, v = .ref t ∧ SqT K G t [.int c.i, optI c.t, gv] ∧ GV K G gv c.g
def LayerV (K : PySem.W.Frag) (G : Hp) (l : Addr) (L : Gf.Layer) : Prop := ∃ xs, SqL K G l xs ∧ Paired (CellV K G) xs L
def LayRV (K : PySem.W.Frag) (G : Hp) (v : V) (L : Gf.Layer) : Prop := ∃ l, v = .ref l ∧ LayerV K G l L
def LayersV (K : PySem.W.Frag) (G : Hp) (a : Addr) (Ls : List Gf.Layer) : Prop := ∃ xs, SqL K G a xs ∧ Paired (LayRV K G) xs Ls
theorem GV.keep {K : PySem.W.Frag} {G G' : Hp} {v : V} (e : LamX.ExtN G G') : ∀ {g : Option (List Int)}, GV K G v g → GV K G' v g
  | none, h => h
  | some _, ⟨l, h1, h2⟩ => ⟨l, h1, sqL_keep e h2⟩
theorem CellV.keep {K : PySem.W.Frag} {G G' : Hp} {v : V} (e : LamX.ExtN G G') : ∀ {c : Option Gf.Cell}, CellV K G v c → CellV K G' v c
  | none, h => h
  | some _, ⟨t, gv, h1, h2, h3⟩ => ⟨t, gv, h1, sqT_keep e h2, h3.keep e⟩
theorem LayerV.keep {K : PySem.W.Frag} {G G' : Hp} {l : Addr} {L : Gf.Layer} (e : LamX.ExtN G G') (h : LayerV K G l L) : LayerV K G' l L := by
  obtain ⟨xs, h1, h2⟩ := h
  exact ⟨xs, sqL_keep e h1, paired_mono h2 fun _ _ z => z.keep e⟩
theorem LayRV.keep {K : PySem.W.Frag} {G G' : Hp} {v : V} {L : Gf.Layer} (e : LamX.ExtN G G') (h : LayRV K G v L) : LayRV K G' v L := by
  obtain ⟨l, h1, h2⟩ := h
  exact ⟨l, h1, h2.keep e⟩
theorem LayersV.keep {K : PySem.W.Frag} {G G' : Hp} {a : Addr} {Ls : List Gf.Layer} (e : LamX.ExtN G G') (h : LayersV K G a Ls) : LayersV K G' a Ls := by
  obtain ⟨xs, h1, h2⟩ := h
  exact ⟨xs, sqL_keep e h1, paired_mono h2 fun _ _ z => z.keep e⟩
/-- all but one object -/
def cutH (H : Hp) (d : Addr) : Hp := fun b => if b = d then none else H b
theorem cut_self {H : Hp} {d : Addr} : cutH H d d = none := if_pos rfl
theorem cut_ne {H : Hp} {d b : Addr} (h : b ≠ d) : cutH H d b = H b := if_neg h
theorem cut_same {H : Hp} {d : Addr} : Same (cutH H d) H := fun b o e => by
  by_cases h : b = d
  · rw [h, cut_self] at e; cases e
  · rw [cut_ne h] at e; exact e
theorem sqT_cut {K : PySem.W.Frag} {H : Hp} {d t : Addr} {kvs : List (Key × V)} {xs : List V} (hd : H d = some (.dK kvs)) (h : SqT K H t xs) : SqT K (cutH H d) t xs := by
  rcases h with (h | ⟨o, h⟩) | h
  · exact .inl (.inl (by rw [cut_ne (fun z => by rw [z, hd] at h; cases h)]; exact h))
  · exact .inl (.inr ⟨o, by rw [cut_ne (fun z => by rw [z, hd] at h; cases h)]; exact h⟩)
  · exact .inr h
theorem sqL_cut {K : PySem.W.Frag} {H : Hp} {d t : Addr} {kvs : List (Key × V)} {xs : List V} (hd : H d = some (.dK kvs)) (h : SqL K H t xs) : SqL K (cutH H d) t xs := by
  rcases h with (h | ⟨o, h⟩) | h
  · exact .inl (.inl (by rw [cut_ne (fun z => by rw [z, hd] at h; cases h)]; exact h))
  · exact .inl (.inr ⟨o, by rw [cut_ne (fun z => by rw [z, hd] at h; cases h)]; exact h⟩)
  · exact .inr h
theorem ChR.cut {K : PySem.W.Frag} {H : Hp} {d : Addr} {ks kvs : List (Key × V)} {L : List Gf.Ch} (hd : H d = some (.dK ks)) (h : ChR K H kvs L) : ChR K (cutH H d) kvs L :=
  paired_mono h fun kv c ⟨h1, t, l, h2, h3, h4⟩ => ⟨h1, t, l, h2, sqT_cut hd h3, sqL_cut hd h4⟩
theorem Snap.comp {H0 G H G2 H2 : Hp} {ds : List Addr} (s : Snap H0 ds G H) (s2 : Snap G ds G2 H2) : Snap H0 ds G2 H2 := ⟨s.old.trans s2.old, s2.sub, s2.no⟩
theorem Snap.keep {H0 G H : Hp} {ds : List Addr} (s : Snap H0 ds G H) : LamX.ExtN G H := same_ext s.sub
theorem same_cut {H H' : Hp} {d : Addr} {o : HO} (hd : H d = some o) (s : Same (cutH H d) H') (h : H' d = some o) : Same H H' := fun b u e => by
  by_cases z : b = d
  · rw [z] at e ⊢
    rw [hd] at e
    rw [h]
    exact e
  · exact s b u (by rw [cut_ne z]; exact e)
theorem atI_end {α : Type} {xs : List α} {i : Nat} {v : α} (hl : xs.length = i + 1) (h : xs[i]? = some v) : atI xs (-1) = some v := by
  have e : ixN xs.length (-1) = some i := by
    unfold ixN
    rw [if_neg (by omega), if_pos (by omega), hl]
    congr 1
    omega
  unfold atI
  rw [e]
  exact h
theorem ixN_at {n j : Nat} (hj : j < n) : ixN n (j : Int) = some j := by
  unfold ixN
  rw [if_pos (by omega), if_pos (by omega)]
  simp
theorem yes_i {σ : L2.St} {H : Hp} {A B : Hp → Prop} (h : A H) : tYes σ H (fun b H3 => if b = true then A H3 else B H3) := by
  show (if true = true then A H else B H)
  rw [if_pos rfl]
  exact h
theorem rep_flat {α : Type} (a : α) : ∀ k : Nat, (List.replicate k [a]).flatten = List.replicate k a
  | 0 => rfl
  | k + 1 => by rw [List.replicate_succ, List.flatten_cons, rep_flat a k, List.replicate_succ]; rfl
theorem paired_rep {α β : Type} {R : α → β → Prop} {a : α} {b : β} (h : R a b) : ∀ k : Nat, Paired R (List.replicate k a) (List.replicate k b)
  | 0 => .nil
  | k + 1 => .cons h (paired_rep h k)
theorem layersM_succ {n : Int} {L : List Gf.Ch} {i : Nat} : Gf.layersM n L (i + 1) = Gf.layersM n L i ++ [Gf.layerAt n L (i + 1)] := by
  unfold Gf.layersM
  rw [List.range_succ, List.map_append] <;> rfl
theorem take_snoc {α : Type} {L : List α} {j : Nat} {c : α} (h : L[j]? = some c) : L.take (j + 1) = L.take j ++ [c] := by
  rw [List.take_succ, h] <;> rfl
def spLayers (K : PySem.W.Frag) : Sp := fun vs H Q _ => ∃ (d : Addr) (L : List Gf.Ch) (n : Int) (k : Nat), vs = [.ref d, .int n, .int k] ∧ ChAt K H d L ∧ (∀ c ∈ L, 1 ≤ c.1 ∧ c.1 ≤ n) ∧ (0 ≤ n ∧ n ≤ 300) ∧ k ≤ 8 ∧ ∀ H' a, Same H H' → LayersV K H' a (Gf.layersM n L k) → Q (.ref a) H'
section
variable {P : Program} {w : World} {K : PySem.W.Frag} {mg : Str → Option Value} {base : Heap}
theorem ok_layers (T : Txt K mg) : CalC P w K mg base 1 "layers" (spLayers K) := by
  refine calC_of T.f_layers T.g_layers sc_layers (fun _ _ _ _ _ _ us hl => match us, hl with | [_, _, _], _ => rfl) (fun vs H Q E h => by obtain ⟨d, L, n, k, rfl, ⟨kvs, hd, hL⟩, hcs, hn, hk, q⟩ := h; rfl) fun cdv A outer s H vs Q E hr h => ?_
  obtain ⟨d, L, n, k, rfl, ⟨kvs, hd, hL⟩, hcs, hn, hk, q⟩ := h
  refine ⟨_, (pss_cons (ps_set (i := 3) sc_layers.nd rfl (Or.inl rfl) (pe_lst (pa_cons (pe_op op_rep (pe_lst (pa_cons pe_non pa_nil)) (pe_op op_add (pv 1) pe_int)) pa_nil)))
  (pss_cons (ps_asg (pe_tup (pa_cons pe_int (pa_cons pe_non (pa_cons pe_non pa_nil)))) (pg_sub (pe_ix (r := rIxL K) ix_list (pv 3) pe_int (fun _ _ => rfl)) pe_int set_list))
  (pss_cons (ps_for PassesOwn.never rfl (pi_range1 rfl T.b_range (pa_cons (pv 2) pa_nil)) (pg_name (i := 4) sc_layers.nd rfl (Or.inl rfl))
    (pss_cons (ps_set (i := 5) sc_layers.nd rfl (Or.inl rfl) (pe_ix (r := rIxL K) ix_list (pv 3) (pe_un un_neg pe_int) (fun _ _ => rfl)))
    (pss_cons (ps_setLc (i := 6) (own := [("best", 7)]) rfl sc_layers.nd rfl rfl (sw_true rfl rfl rfl (by decide +kernel)) (pi_list (pv 5)) (blkOk_by (own := [("best", 7)]) (N := ["choices", "blocks", "files", "found", "turn", "before", "layer", "best", "total", "idle", "growths", "held", "ahead", "here"]) (sc := defScope s_layers) (by decide +kernel)) (fun _ _ _ _ _ => (pg_name (i := 7) sc_layers.nd rfl (Or.inl rfl))) (fun _ _ _ _ _ => pts_nil) (fun _ _ _ _ _ => (pe_ifExp (pt_cmp (pc_isN (pv 7))) pe_non (pe_tup (pa_cons (pe_ix (r := rIxT K) ix_tup (pv 7) pe_int (fun _ _ => rfl)) (pa_cons pe_int (pa_cons pe_non pa_nil)))))))
    (pss_cons (ps_lock (ps_for PassesOwn.never rfl (pi_items (pv 0)) (pg_tup rfl (pgs_cons (pg_name (i := 8) sc_layers.nd rfl (Or.inl rfl)) (pgs_cons (pg_tup rfl (pgs_cons (pg_name (i := 9) sc_layers.nd rfl (Or.inl rfl)) (pgs_cons (pg_name (i := 10) sc_layers.nd rfl (Or.inl rfl)) pgs_nil))) pgs_nil)))
      (pss_one (ps_for PassesOwn.never rfl (pi_range1 rfl T.b_range (pa_cons (pe_op op_add (pe_op op_sub (pv 1) (pv 8)) pe_int) pa_nil)) (pg_name (i := 11) sc_layers.nd rfl (Or.inl rfl))
        (pss_cons (ps_set (i := 12) sc_layers.nd rfl (Or.inl rfl) (pe_ix (r := rIxL K) ix_list (pv 5) (pv 11) (fun _ _ => rfl)))
        (pss_cons (ps_if (pt_cmp (pc_isN (pv 12)))
          (pss_one ps_continue)
          pss_nil)
        (pss_cons (ps_set (i := 13) sc_layers.nd rfl (Or.inl rfl) (pe_ix (r := rIxL K) ix_list (pv 6) (pe_op op_add (pv 11) (pv 8)) (fun _ _ => rfl)))
        (pss_one (ps_if (PW.pt (pw_or (pt_cmp (pc_isN (pv 13))) (pw_or1 (pt_cmpR op_lt (pe_ix (r := rIxT K) ix_tup (pv 13) pe_int (fun _ _ => rfl)) (pe_op op_add (pe_ix (r := rIxT K) ix_tup (pv 12) pe_int (fun _ _ => rfl)) (pv 9)) (nomark _)))))
          (pss_one (ps_asg (pe_tup (pa_cons (pe_op op_add (pe_ix (r := rIxT K) ix_tup (pv 12) pe_int (fun _ _ => rfl)) (pv 9)) (pa_cons (pv 8) (pa_cons (pv 10) pa_nil)))) (pg_sub (pv 6) (pe_op op_add (pv 11) (pv 8)) set_list)))
          pss_nil)))))))))
    (pss_one (ps_expr (pe_bm F.plainAttrs_list F.slot_list_append F.type_list_append mt_append (pv 3) (pa_cons (pv 6) pa_nil))))))))
  (pss_one (ps_ret (pv 3)))))), ?_⟩
  have hL' := hL.cut hd
  refine ⟨(by show 1 ≤ sizeLine; decide), fun p0 hp0 => ⟨_, rfl, _, _, rfl, rfl, p0, n + 1, [.non], rfl, rfl, upd_same, by omega, by omega, (by rw [sizeLine_eq]; show 1 * (n + 1).toNat ≤ _; omega), fun l0 hl0 => ⟨(by show 1 ≤ sizeLine; decide), fun fd hfd => ?_⟩⟩⟩
  refine ⟨(by show 3 ≤ sizeLine; decide), fun t ht => ?_⟩
  rw [rep_flat] at hfd ht
  have dp : d ≠ p0 := ne_of_none hd hp0
  have hd1 : upd H p0 (.lst [.non]) d = some (.dK kvs) := by rw [upd_ne dp]; exact hd
  have dl : d ≠ l0 := ne_of_none hd1 hl0
  have hd2 : upd (upd H p0 (.lst [.non])) l0 (.lst (List.replicate (n + 1).toNat V.non)) d = some (.dK kvs) := by rw [upd_ne dl]; exact hd1
  have df : d ≠ fd := ne_of_none hd2 hfd
  have lf : l0 ≠ fd := fun z => by rw [← z, upd_same] at hfd; cases hfd
  have hd3 : upd (upd (upd H p0 (.lst [.non])) l0 (.lst (List.replicate (n + 1).toNat V.non))) fd (.lst [.ref l0]) d = some (.dK kvs) := by rw [upd_ne df]; exact hd2
  have dt : d ≠ t := ne_of_none hd3 ht
  have hl3 : upd (upd (upd H p0 (.lst [.non])) l0 (.lst (List.replicate (n + 1).toNat V.non))) fd (.lst [.ref l0]) l0 = some (.lst (List.replicate (n + 1).toNat V.non)) := by rw [upd_ne lf, upd_same]
  have lt : l0 ≠ t := ne_of_none hl3 ht
  have ft : fd ≠ t := fun z => by rw [← z, upd_same] at ht; cases ht
  rw [rep_flat]
  have s3 : Snap (cutH H d) [l0, d, fd] (cutH H d) (upd (upd (upd H p0 (.lst [.non])) l0 (.lst (List.replicate (n + 1).toNat V.non))) fd (.lst [.ref l0])) := by
    refine Snap.of (fun z hz => ?_) (cut_same.trans ((same_upd hp0).trans ((same_upd hl0).trans (same_upd hfd))))
    rcases List.mem_cons.mp hz with e | hz
    · rw [e, cut_ne (Ne.symm dl)]
      exact (same_upd hp0).free hl0
    · rcases List.mem_cons.mp hz with e | hz
      · rw [e]; exact cut_self
      · rw [List.mem_singleton.mp hz, cut_ne (Ne.symm df)]
        exact ((same_upd hp0).trans (same_upd hl0)).free hfd
  have s4 := (s3.add (o := .tup [.int 0, .non, .non]) ht (by intro z hz; simp only [List.mem_cons, List.mem_nil_iff, or_false] at hz; rcases hz with e | e | e <;> rw [e] <;> assumption)).put (d := l0) (o := .lst ((List.replicate (n + 1).toNat V.non).set 0 (.ref t))) (by simp)
  have s5 := s4.fin upd_same (by intro z hz; simp only [List.mem_cons, List.mem_nil_iff, or_false] at hz; exact hz.elim (fun e => e ▸ dl) fun e => e ▸ Ne.symm lf)
  have e0 : (upd (upd (upd (upd H p0 (.lst [.non])) l0 (.lst (List.replicate (n + 1).toNat V.non))) fd (.lst [.ref l0])) t (.tup [.int 0, .non, .non])) l0 = some (.lst (List.replicate (n + 1).toNat V.non)) := by rw [upd_ne lt]; exact hl3
  have e1 : (upd (upd (upd (upd H p0 (.lst [.non])) l0 (.lst (List.replicate (n + 1).toNat V.non))) fd (.lst [.ref l0])) t (.tup [.int 0, .non, .non])) fd = some (.lst [.ref l0]) := by rw [upd_ne ft, upd_same]
  refine ⟨_, rfl, fd, [.ref l0], 0, .ref l0, rfl, rfl, SqL.of e1, atI_nat (j := 0) rfl, l0, _, 0, 0, rfl, rfl, e0, ixN_at (j := 0) (by rw [List.length_replicate]; omega), ?_⟩
  refine ⟨_, rfl, (k : Int), rfl, by omega, by omega, ?_⟩
  refine for_range (lo := 0) (n := k) (fun i σ H' => (∃ x4 x5 x6 x7 x8 x9 x10 x11 x12 x13, σ = [some (.ref d), some (.int n), some (.int k), some (.ref fd), x4, x5, x6, x7, x8, x9, x10, x11, x12, x13]) ∧
    ∃ xs G, Snap (cutH H d) [d, fd] G H' ∧ H' fd = some (.lst xs) ∧ Paired (LayRV K G) xs (Gf.layersM n L i) ∧ H' d = some (.dK kvs)) ?_ ?_ ?_
  · refine ⟨⟨_, _, _, _, _, _, _, _, _, _, rfl⟩, [.ref l0], _, s5, by rw [upd_ne (Ne.symm lf)]; exact e1, ?_, by rw [upd_ne dl, upd_ne dt]; exact hd3⟩
    refine .cons ⟨l0, rfl, _, SqL.of upd_same, paired_set (R := CellV K _) (b := some ⟨0, none, none⟩) ?_ 0 (paired_rep (R := CellV K _) (a := V.non) (b := none) rfl _)⟩ .nil
    exact ⟨t, .non, rfl, SqT.of ((upd_ne (Ne.symm lt)).trans upd_same), rfl⟩
  · rintro i σ H1 hi ⟨⟨x4, x5, x6, x7, x8, x9, x10, x11, x12, x13, rfl⟩, xs, G, s, hf, hp, hdd⟩
    obtain ⟨vb, hvb, lb, rfl, bs, hbs, hbp⟩ := paired_at' hp (Gf.layersM_get (Nat.le_refl i))
    have xl : xs.length = i + 1 := by rw [paired_len hp]; simp [Gf.layersM]
    have bl : bs.length = (n + 1).toNat := by rw [paired_len hbp, Gf.layerAt_length]
    refine ⟨_, rfl, _, rfl, fd, xs, _, .ref lb, rfl, rfl, SqL.of hf, atI_end xl hvb, ?_⟩
    refine ⟨_, rfl, lb, rfl, ⟨bs, sqL_keep s.keep hbs⟩, fun ly hly => ?_⟩
    have dly : d ≠ ly := ne_of_none hdd hly
    have fly : fd ≠ ly := ne_of_none hf hly
    have l0l : (Gf.layer0 (Gf.layerAt n L i)).length = (n + 1).toNat := by unfold Gf.layer0; rw [List.length_map, Gf.layerAt_length]
    refine lc_list (K := K) (a := lb) (xs := bs) (fun j H2 => ∃ G2 acc, Snap G [ly, d, fd] G2 H2 ∧ H2 ly = some (.lst acc) ∧ Paired (CellV K G2) acc ((Gf.layer0 (Gf.layerAt n L i)).take j) ∧ H2 fd = some (.lst xs) ∧ H2 d = some (.dK kvs)) ?_ ?_ ?_ ?_
    · refine ⟨G, [], Snap.of (fun z hz => ?_) (s.sub.trans (same_upd hly)), upd_same, .nil, by rw [upd_ne fly]; exact hf, by rw [upd_ne dly]; exact hdd⟩
      rcases List.mem_cons.mp hz with e | hz
      · rw [e]; exact s.sub.free hly
      · exact s.no z hz
    · rintro j H2 _ ⟨G2, acc, s2, h2⟩
      exact sqL_keep s2.keep (sqL_keep (same_ext s2.old) hbs)
    · rintro j x H2 hx ⟨G2, acc, s2, ha, hpa, hf2, hd2⟩
      obtain ⟨o, ho, cx⟩ := paired_at hbp hx
      have al : acc.length ≤ 301 := by
        have e := paired_len hpa
        rw [List.length_take] at e
        omega
      have l0j : (Gf.layer0 (Gf.layerAt n L i))[j]? = some (o.map Gf.keep) := by
        unfold Gf.layer0
        rw [List.getElem?_map, ho] <;> rfl
      refine ⟨rfl, ?_⟩
      refine yes_i ⟨_, rfl, _, rfl, ?_⟩
      cases o with
      | none =>
        have cx' : x = .non := cx
        subst cx'
        refine ifT rfl ⟨acc, ha, by rw [sizeLine_eq]; omega, G2, _, s2.put (by simp), upd_same, ?_, by rw [upd_ne fly]; exact hf2, by rw [upd_ne dly]; exact hd2⟩
        rw [take_snoc l0j]
        exact paired_snoc (show CellV K G2 .non none from rfl) hpa
      | some c =>
        obtain ⟨t2, gv, rfl, ht2, hg2⟩ := cx
        refine ifF (fun z => by cases z) ⟨_, rfl, t2, _, _, _, rfl, rfl, sqT_keep ((same_ext s2.old).trans s2.keep) ht2, atI_nat (j := 0) rfl, (by show 3 ≤ sizeLine; decide), fun t3 ht3 => ?_⟩
        have y1 : ly ≠ t3 := ne_of_none ha ht3
        have y2 : d ≠ t3 := ne_of_none hd2 ht3
        have y3 : fd ≠ t3 := ne_of_none hf2 ht3
        have s6 := (s2.add (o := .tup [.int c.i, .int 0, .non]) ht3 (by intro z hz; simp only [List.mem_cons, List.mem_nil_iff, or_false] at hz; rcases hz with e | e | e <;> rw [e] <;> assumption)).put (d := ly) (o := .lst (acc ++ [.ref t3])) (by simp)
        refine ⟨acc, by rw [upd_ne y1]; exact ha, by rw [sizeLine_eq]; omega, _, _, s6, upd_same, ?_, by rw [upd_ne fly, upd_ne y3]; exact hf2, by rw [upd_ne dly, upd_ne y2]; exact hd2⟩
        rw [take_snoc l0j]
        exact paired_snoc (show CellV K _ (.ref t3) (some (Gf.keep c)) from ⟨t3, .non, rfl, SqT.of upd_same, rfl⟩) (paired_mono hpa fun _ _ z => z.keep (same_ext (same_upd (s2.sub.free ht3))))
    · rintro H2 ⟨G2, acc, s2, ha, hpa, hf2, hd2⟩
      have hpa0 : Paired (CellV K G2) acc (Gf.layer0 (Gf.layerAt n L i)) := by
        rw [bl, List.take_of_length_le (by omega)] at hpa
        exact hpa
      clear hpa
      refine ⟨d, _, hd2, trivial, fun od => ⟨_, rfl, d, od, kvs, rfl, upd_same, ?_⟩⟩
      refine for_it walk_items (fun j σ H3 => (∃ x7 x8 x9 x10 x11 x12 x13, σ = [some (.ref d), some (.int n), some (.int k), some (.ref fd), some (.int (0 + (i : Int))), some (.ref lb), some (.ref ly), x7, x8, x9, x10, x11, x12, x13]) ∧
        ∃ G3 acc, Snap G [ly, d, fd] G3 H3 ∧ H3 ly = some (.lst acc) ∧ Paired (CellV K G3) acc ((L.take j).foldl (Gf.outerStep n (Gf.layerAt n L i)) (Gf.layer0 (Gf.layerAt n L i))) ∧ H3 fd = some (.lst xs) ∧ H3 d = some (.frz od (.dK kvs))) ?_ ?_ ?_ ?_
      · exact ⟨⟨_, _, _, _, _, _, _, rfl⟩, G2, acc, s2.put (by simp), by rw [upd_ne (Ne.symm dly)]; exact ha, hpa0, by rw [upd_ne (Ne.symm df)]; exact hf2, upd_same⟩
      · rintro j σ H3 _ ⟨_, G3, acc, _, _, _, _, h⟩
        exact h
      · rintro j x σ H3 H4 hj ⟨⟨x7, x8, x9, x10, x11, x12, x13, rfl⟩, G3, acc3, s3, ha3, hp3, hf3, hd3'⟩ ⟨T2, xa, xb, rfl, hT, rfl, hxa, hxb⟩
        have hkj : kvs[j]? = some kvs[j] := List.getElem?_eq_getElem hj
        obtain ⟨c, hc, k1, t4, l4, k2, k3, k4⟩ := paired_at hL' hkj
        have hxa : kvs[j]?.map (fun kv => kV kv.1) = some xa := hxa
        have hxb : kvs[j]?.map Prod.snd = some xb := hxb
        rw [hkj] at hxa hxb
        have exa : xa = .int c.1 := by rw [← Option.some.inj hxa]; show kV _ = _; rw [k1]; rfl
        have exb : xb = .ref t4 := by rw [← Option.some.inj hxb]; exact k2
        subst exa
        subst exb
        have cm := hcs c (List.mem_of_getElem? hc)
        have y1 : ly ≠ T2 := ne_of_none ha3 hT
        have y2 : d ≠ T2 := ne_of_none hd3' hT
        have y3 : fd ≠ T2 := ne_of_none hf3 hT
        have s4 := s3.skip (o := .tup [.int c.1, .ref t4]) hT
        have sk : Same (cutH H d) G := s.old
        refine ⟨T2, _, rfl, SqT.of upd_same, rfl, _, _, rfl, _, _, rfl, t4, _, rfl, sqT_keep (same_ext (sk.trans s4.all)) k3, rfl, _, _, rfl, _, _, rfl, rfl, rfl, ?_⟩
        refine ⟨_, rfl, _, rfl, _, _, rfl, rfl, _, _, rfl, rfl, n - c.1 + 1, rfl, by omega, by omega, ?_⟩
        refine for_range (lo := 0) (n := (n - c.1 + 1).toNat) (fun h σ H5 => (∃ x11 x12 x13, σ = [some (.ref d), some (.int n), some (.int k), some (.ref fd), some (.int (0 + (i : Int))), some (.ref lb), some (.ref ly), x7, some (.int c.1), some (.int c.2.1), some (.ref l4), x11, x12, x13]) ∧
          ∃ G3 acc, Snap G [ly, d, fd] G3 H5 ∧ H5 ly = some (.lst acc) ∧ Paired (CellV K G3) acc (Gf.innerTo (Gf.layerAt n L i) c.1 c.2.1 c.2.2 ((L.take j).foldl (Gf.outerStep n (Gf.layerAt n L i)) (Gf.layer0 (Gf.layerAt n L i))) h) ∧ H5 fd = some (.lst xs) ∧ H5 d = some (.frz od (.dK kvs))) ?_ ?_ ?_
        · exact ⟨⟨_, _, _, rfl⟩, G3, acc3, s4, by rw [upd_ne y1]; exact ha3, hp3, by rw [upd_ne y3]; exact hf3, by rw [upd_ne y2]; exact hd3'⟩
        · rintro h σ H5 hh ⟨⟨x11, x12, x13, rfl⟩, G5, acc5, s5', ha5, hp5, hf5, hd5⟩
          obtain ⟨vh, hvh⟩ : ∃ vh, bs[h]? = some vh := ⟨bs[h]'(by omega), List.getElem?_eq_getElem _⟩
          obtain ⟨o, ho, cx⟩ := paired_at hbp hvh
          have a5l : acc5.length = (n + 1).toNat := by rw [paired_len hp5, Gf.innerTo_length, Gf.fold_length, l0l]
          have inn : ∀ ly', Gf.innerTo (Gf.layerAt n L i) c.1 c.2.1 c.2.2 ly' (h + 1) = Gf.innerStep (Gf.layerAt n L i) c.1 c.2.1 c.2.2 (Gf.innerTo (Gf.layerAt n L i) c.1 c.2.1 c.2.2 ly' h) h := fun _ => rfl
          refine ⟨_, rfl, _, rfl, lb, bs, _, vh, rfl, rfl, sqL_keep (same_ext s5'.all) hbs, by rw [Int.zero_add]; exact atI_nat hvh, ?_⟩
          refine ⟨_, rfl, _, rfl, ?_⟩
          cases o with
          | none =>
            have cx' : vh = .non := cx
            subst cx'
            refine ifT rfl ⟨⟨_, _, _, rfl⟩, G5, acc5, s5', ha5, ?_, hf5, hd5⟩
            rw [inn]
            unfold Gf.innerStep
            rw [ho]
            exact hp5
          | some a =>
            obtain ⟨t5, gv5, rfl, ht5, hg5⟩ := cx
            refine ifF (fun z => by cases z) ?_
            have hlt : h + c.1.toNat < acc5.length := by omega
            obtain ⟨vy, hvy⟩ : ∃ vy, acc5[h + c.1.toNat]? = some vy := ⟨acc5[h + c.1.toNat], List.getElem?_eq_getElem _⟩
            obtain ⟨o2, ho2, cy⟩ := paired_at hp5 hvy
            have eh : 0 + (h : Int) + c.1 = ((h + c.1.toNat : Nat) : Int) := by omega
            have ht5' := sqT_keep (same_ext s5'.all) ht5
            refine ⟨_, rfl, _, rfl, _, rfl, _, _, rfl, rfl, ly, acc5, _, vy, rfl, rfl, SqL.of ha5, by rw [eh]; exact atI_nat hvy, ?_⟩
            have st : Gf.better ((Gf.innerTo (Gf.layerAt n L i) c.1 c.2.1 c.2.2 ((L.take j).foldl (Gf.outerStep n (Gf.layerAt n L i)) (Gf.layer0 (Gf.layerAt n L i))) h)[h + c.1.toNat]?).join (a.i + c.2.1) = Gf.better o2 (a.i + c.2.1) := by rw [ho2] <;> rfl
            have store : Gf.better o2 (a.i + c.2.1) = true → ∀ t6, H5 t6 = none → (∃ G3 acc, Snap G [ly, d, fd] G3 (upd (upd H5 t6 (.tup [.int (a.i + c.2.1), .int c.1, .ref l4])) ly (.lst (acc5.set (h + c.1.toNat) (.ref t6)))) ∧ (upd (upd H5 t6 (.tup [.int (a.i + c.2.1), .int c.1, .ref l4])) ly (.lst (acc5.set (h + c.1.toNat) (.ref t6)))) ly = some (.lst acc) ∧ Paired (CellV K G3) acc (Gf.innerTo (Gf.layerAt n L i) c.1 c.2.1 c.2.2 ((L.take j).foldl (Gf.outerStep n (Gf.layerAt n L i)) (Gf.layer0 (Gf.layerAt n L i))) (h + 1)) ∧ (upd (upd H5 t6 (.tup [.int (a.i + c.2.1), .int c.1, .ref l4])) ly (.lst (acc5.set (h + c.1.toNat) (.ref t6)))) fd = some (.lst xs) ∧ (upd (upd H5 t6 (.tup [.int (a.i + c.2.1), .int c.1, .ref l4])) ly (.lst (acc5.set (h + c.1.toNat) (.ref t6)))) d = some (.frz od (.dK kvs))) := fun hb t6 ht6 => by
              have z1 : ly ≠ t6 := ne_of_none ha5 ht6
              have z2 : d ≠ t6 := ne_of_none hd5 ht6
              have z3 : fd ≠ t6 := ne_of_none hf5 ht6
              have s6 := (s5'.add (o := .tup [.int (a.i + c.2.1), .int c.1, .ref l4]) ht6 (by intro z hz; simp only [List.mem_cons, List.mem_nil_iff, or_false] at hz; rcases hz with e | e | e <;> rw [e] <;> assumption)).put (d := ly) (o := .lst (acc5.set (h + c.1.toNat) (.ref t6))) (by simp)
              refine ⟨_, _, s6, upd_same, ?_, by rw [upd_ne fly, upd_ne z3]; exact hf5, by rw [upd_ne dly, upd_ne z2]; exact hd5⟩
              rw [inn]
              unfold Gf.innerStep
              rw [ho]
              simp only [st, hb, if_true]
              refine paired_set (show CellV K _ (.ref t6) (some ⟨a.i + c.2.1, some c.1, some c.2.2⟩) from ⟨t6, .ref l4, rfl, SqT.of upd_same, l4, rfl, sqL_keep (same_ext ((sk.trans s5'.old).trans (same_upd (s5'.sub.free ht6)))) k4⟩) _ (paired_mono hp5 fun _ _ z => z.keep (same_ext (same_upd (s5'.sub.free ht6))))
            have ly5 : ∀ t6, H5 t6 = none → upd H5 t6 (.tup [.int (a.i + c.2.1), .int c.1, .ref l4]) ly = some (.lst acc5) := fun t6 ht6 => by rw [upd_ne (ne_of_none ha5 ht6)]; exact ha5
            refine ⟨_, rfl, _, rfl, ?_⟩
            cases o2 with
            | none =>
              have cy' : vy = .non := cy
              subst cy'
              refine ifT rfl (iteT ?_)
              refine ⟨_, rfl, t5, _, _, _, rfl, rfl, ht5', atI_nat (j := 0) rfl, _, rfl, _, _, rfl, rfl, _, rfl, _, rfl, (by show 3 ≤ sizeLine; decide), fun t6 ht6 => ?_⟩
              exact ⟨_, rfl, _, rfl, _, rfl, _, _, rfl, rfl, ly, acc5, _, _, rfl, rfl, ly5 t6 ht6, by rw [eh]; exact ixN_at hlt, ⟨_, _, _, rfl⟩, store rfl t6 ht6⟩
            | some c2 =>
              obtain ⟨t7, gv7, rfl, ht7, hg7⟩ := cy
              refine ifF (fun z => by cases z) ?_
              refine ⟨_, rfl, t7, _, _, _, rfl, rfl, sqT_keep s5'.keep ht7, atI_nat (j := 0) rfl, _, rfl, t5, _, _, _, rfl, rfl, ht5', atI_nat (j := 0) rfl, _, rfl, _, _, rfl, rfl, _, _, rfl, rfl, _, rfl, ?_⟩
              refine if2 (fun hb => ?_) (fun hb => ?_)
              · refine ⟨_, rfl, t5, _, _, _, rfl, rfl, ht5', atI_nat (j := 0) rfl, _, rfl, _, _, rfl, rfl, _, rfl, _, rfl, (by show 3 ≤ sizeLine; decide), fun t6 ht6 => ?_⟩
                exact ⟨_, rfl, _, rfl, _, rfl, _, _, rfl, rfl, ly, acc5, _, _, rfl, rfl, ly5 t6 ht6, by rw [eh]; exact ixN_at hlt, ⟨_, _, _, rfl⟩, store (decide_eq_true hb) t6 ht6⟩
              · refine ⟨⟨_, _, _, rfl⟩, G5, acc5, s5', ha5, ?_, hf5, hd5⟩
                rw [inn]
                unfold Gf.innerStep
                rw [ho]
                have hb2 : Gf.better (some c2) (a.i + c.2.1) = false := decide_eq_false hb
                simp only [st, hb2, Bool.false_eq_true, if_false]
                exact hp5
        · rintro σ H5 ⟨⟨x11, x12, x13, rfl⟩, G5, acc5, s5', ha5, hp5, hf5, hd5⟩
          refine ⟨⟨_, _, _, _, _, _, _, rfl⟩, G5, acc5, s5', ha5, ?_, hf5, hd5⟩
          rw [take_snoc hc, List.foldl_append]
          exact hp5
      · rintro σ H3 ⟨⟨x7, x8, x9, x10, x11, x12, x13, rfl⟩, G3, acc3, s3, ha3, hp3, hf3, hd3'⟩
        refine ⟨hd3', ?_⟩
        have s4 := s3.put (d := d) (o := .dK kvs) (by simp)
        have f4 : upd H3 d (.dK kvs) fd = some (.lst xs) := by rw [upd_ne (Ne.symm df)]; exact hf3
        have l4 : upd H3 d (.dK kvs) ly = some (.lst acc3) := by rw [upd_ne (Ne.symm dly)]; exact ha3
        have s5 := (s.comp (s4.fin l4 (by intro z hz; simp only [List.mem_cons, List.mem_nil_iff, or_false] at hz; rcases hz with e | e <;> rw [e] <;> assumption))).put (d := fd) (o := .lst (xs ++ [.ref ly])) (by simp)
        refine ⟨_, rfl, .inl ⟨rfl, xs, SqL.of f4⟩, _, rfl, fd, xs, .ref ly, rfl, rfl, f4, by rw [sizeLine_eq]; omega, ?_⟩
        refine ⟨⟨_, _, _, _, _, _, _, _, _, _, rfl⟩, _, _, s5, upd_same, ?_, by rw [upd_ne df, upd_same]⟩
        have gl : G3 ly = none := s3.no ly (by simp)
        have e3 : LamX.ExtN G3 (upd G3 ly (.lst acc3)) := same_ext (same_upd gl)
        rw [layersM_succ]
        refine paired_snoc ⟨ly, rfl, acc3, SqL.of upd_same, ?_⟩ (paired_mono hp fun _ _ z => z.keep ((same_ext s3.old).trans e3))
        refine paired_mono ?_ fun _ _ z => CellV.keep e3 z
        have kl : kvs.length = L.length := paired_len hL
        rw [kl, List.take_length] at hp3
        exact hp3
  · rintro σ H1 ⟨⟨x4, x5, x6, x7, x8, x9, x10, x11, x12, x13, rfl⟩, xs, G, s, hf, hp, hdd⟩
    exact ⟨_, rfl, q H1 fd (same_cut hd s.all hdd) ⟨xs, SqL.of hf, paired_mono hp fun _ _ z => z.keep s.keep⟩⟩
end
end Gt
/-! ## GfK4 -/
set_option Elab.async false
set_option linter.all false
set_option maxRecDepth 100000
set_option maxHeartbeats 4000000
namespace Gt
open PySem PySem.Spec PyProof.Rows L2 Wm
/-! ### growths_at, short_choices, fullest -/
theorem cell_back {n : Int} {cs : List Gf.Ch} {k p : Nat} {c : Gf.Cell} (hcs : ∀ c ∈ cs, 0 ≤ c.1 ∧ c.1 ≤ n) (h : (Gf.layerAt n cs (k + 1))[p]? = some (some c)) :
    ∃ t, c.t = some t ∧ 0 ≤ t ∧ t ≤ p ∧ ∃ a, (Gf.layerAt n cs k)[((p : Int) - t).toNat]? = some (some a) := by
  cases Gf.next_from hcs p c h with
  | kept a h' => exact ⟨0, rfl, Int.le_refl _, by omega, a, by
      have e : ((p : Int) - 0).toNat = p := by omega
      rw [e]; exact h'⟩
  | put a t i g q hc hq ht hp h' => exact ⟨t, rfl, ht, by omega, a, by
      have e : ((p : Int) - t).toNat = q := by omega
      rw [e]; exact h'⟩
def RowV1 (K : PySem.W.Frag) (G : Hp) (v : V) (g : List Int) : Prop := ∃ l, v = .ref l ∧ SqL K G l (g.map V.int)
def RowsV (K : PySem.W.Frag) (G : Hp) (a : Addr) (rows : List (List Int)) : Prop := ∃ xs, G a = some (.lst xs) ∧ Paired (RowV1 K G) xs rows
theorem RowV1.keep {K : PySem.W.Frag} {G G' : Hp} {v : V} {g : List Int} (e : LamX.ExtN G G') (h : RowV1 K G v g) : RowV1 K G' v g := by
  obtain ⟨l, h1, h2⟩ := h
  exact ⟨l, h1, sqL_keep e h2⟩
theorem RowsV.keep {K : PySem.W.Frag} {G G' : Hp} {a : Addr} {rows : List (List Int)} (e : LamX.ExtN G G') (h : RowsV K G a rows) : RowsV K G' a rows := by
  obtain ⟨xs, h1, h2⟩ := h
  exact ⟨xs, keep_lst e h1, paired_mono h2 fun _ _ z => z.keep e⟩
theorem bk_ok {K : PySem.W.Frag} {H : Hp} {a : Addr} {b : Gf.Bk} (h : BookAt K H a b) (ok : 1 ≤ b.first ∧ b.first ≤ b.roof ∧ b.roof ≤ 1000) : b.Ok := by
  obtain ⟨_, _, _, _, h1, h2⟩ := h
  exact ⟨ok.1, ok.2.1, h1.1, h2.1⟩
theorem whole_in {b : Gf.Bk} (hb : b.Ok) {n : Int} : ∀ c ∈ Gf.wholeM b n, 1 ≤ c.1 ∧ c.1 ≤ n := fun c hc => by
  obtain ⟨h1, h2⟩ := Gf.wcTo_sound b n _ c hc
  have := hb.f1
  rcases h2 with ⟨e, _⟩ | ⟨h, z1, e, _⟩
  · omega
  · have := Gf.step_pos hb h
    omega
def spGrow (K : PySem.W.Frag) : Sp := fun vs H Q _ => ∃ (f : Addr) (L : List Gf.Ch) (n : Int) (m k h : Nat), vs = [.ref f, .int k, .int h] ∧ LayersV K H f (Gf.layersM n L m) ∧ (∀ c ∈ L, 0 ≤ c.1 ∧ c.1 ≤ n) ∧ (k ≤ m ∧ m ≤ 8) ∧ (∃ c, (Gf.layerAt n L k)[h]? = some (some c)) ∧
  ∀ H' a, Same H H' → RowsV K H' a (Gf.growthsM (Gf.layersM n L m) k h) → Q (.ref a) H'
def ShV1 (K : PySem.W.Frag) (G : Hp) (v : V) (c : Gf.Sc) : Prop := ∃ t l, v = .ref t ∧ SqT K G t [.int c.1, .int c.2.1, .ref l] ∧ SqL K G l (c.2.2.map V.int)
theorem ShV1.keep {K : PySem.W.Frag} {G G' : Hp} {v : V} {g : Gf.Sc} (e : LamX.ExtN G G') (h : ShV1 K G v g) : ShV1 K G' v g := by
  obtain ⟨t, l, h1, h2, h3⟩ := h
  exact ⟨t, l, h1, sqT_keep e h2, sqL_keep e h3⟩
def ShortsV (K : PySem.W.Frag) (G : Hp) (a : Addr) (L : List Gf.Sc) : Prop := ∃ xs, G a = some (.lst xs) ∧ Paired (ShV1 K G) xs L
def spShort (K : PySem.W.Frag) : Sp := fun vs H Q _ => ∃ (a : Addr) (b : Gf.Bk) (n : Int), vs = [.ref a, .int n] ∧ BookAt K H a b ∧ (1 ≤ b.first ∧ b.first ≤ b.roof ∧ b.roof ≤ 1000) ∧ (0 ≤ n ∧ n ≤ 300) ∧ ∀ H' d, Same H H' → ShortsV K H' d (Gf.shortsM b n) → Q (.ref d) H'
theorem shortsAt_len {b : Gf.Bk} {n : Int} (hn : 0 ≤ n ∧ n ≤ 300) {k : Int} (hk : 0 ≤ k) : (Gf.shortsAt b n k).length ≤ 300 := by
  unfold Gf.shortsAt
  split
  · rw [List.length_map, List.length_range]
    split <;> omega
  · exact Nat.zero_le _
theorem shortsTo_len {b : Gf.Bk} {n : Int} (hn : 0 ≤ n ∧ n ≤ 300) : ∀ k : Nat, (Gf.shortsTo b n k).length ≤ 300 * k
  | 0 => Nat.zero_le _
  | k + 1 => by
    show (Gf.shortsTo b n k ++ Gf.shortsAt b n k).length ≤ _
    rw [List.length_append]
    have := shortsTo_len (b := b) hn k
    have := shortsAt_len (b := b) hn (k := (k : Int)) (by omega)
    omega
def BestV (K : PySem.W.Frag) (G : Hp) (t : Addr) (B : Gf.Best) : Prop := ∃ r, SqT K G t [.int B.i, .int B.h, .ref r] ∧ RowsV K G r B.rows
theorem BestV.keep {K : PySem.W.Frag} {G G' : Hp} {t : Addr} {B : Gf.Best} (e : LamX.ExtN G G') (h : BestV K G t B) : BestV K G' t B := by
  obtain ⟨r, h1, h2⟩ := h
  exact ⟨r, sqT_keep e h1, h2.keep e⟩
def spFull (K : PySem.W.Frag) : Sp := fun vs H Q _ => ∃ (a : Addr) (b : Gf.Bk) (n : Int) (k : Nat), vs = [.ref a, .int n, .int k] ∧ BookAt K H a b ∧ (1 ≤ b.first ∧ b.first ≤ b.roof ∧ b.roof ≤ 1000) ∧ (1 ≤ n ∧ n ≤ 300) ∧ k ≤ 8 ∧ ∀ H' t, Same H H' → BestV K H' t (Gf.fullestM b n k) → Q (.ref t) H'
def spMost (K : PySem.W.Frag) : Sp := fun vs H Q _ => ∃ (a : Addr) (b : Gf.Bk) (n : Int) (k : Nat), vs = [.ref a, .int n, .int k] ∧ BookAt K H a b ∧ (1 ≤ b.first ∧ b.first ≤ b.roof ∧ b.roof ≤ 1000) ∧ (1 ≤ n ∧ n ≤ 300) ∧ k ≤ 8 ∧ ∀ H', Same H H' → Q (.int (Gf.fullestM b n k).i) H'
section
variable {P : Program} {w : World} {K : PySem.W.Frag} {mg : Str → Option Value} {base : Heap}
theorem ok_growths_at (T : Txt K mg) : CalC P w K mg base 1 "growths_at" (spGrow K) := by
  refine calC_of T.f_growths_at T.g_growths_at sc_growths_at (fun _ _ _ _ _ _ us hl => match us, hl with | [_, _, _], _ => rfl) (fun vs H Q E h => by obtain ⟨f, L, n, m, k, h, rfl, ⟨ys, hys, hLs⟩, hcs, hk, ⟨c, hc⟩, q⟩ := h; rfl) fun cdv A outer s H vs Q E hr h => ?_
  obtain ⟨f, L, n, m, k, h, rfl, ⟨ys, hys, hLs⟩, hcs, hk, ⟨c, hc⟩, q⟩ := h
  refine ⟨_, (pss_cons (ps_set (i := 3) sc_growths_at.nd rfl (Or.inl rfl) (pe_lst pa_nil))
  (pss_cons (ps_while PassesOwn.never (pt_cmpR op_gt (pv 1) pe_int (nomark _))
    (pss_cons (ps_asg (pe_ix (r := rIxL K) ix_list (pe_ix (r := rIxL K) ix_list (pv 0) (pv 1) (fun _ _ => rfl)) (pv 2) (fun _ _ => rfl)) (pg_tup rfl (pgs_cons (pg_name (i := 4) sc_growths_at.nd rfl (Or.inl rfl)) (pgs_cons (pg_name (i := 5) sc_growths_at.nd rfl (Or.inl rfl)) (pgs_cons (pg_name (i := 6) sc_growths_at.nd rfl (Or.inl rfl)) pgs_nil)))))
    (pss_cons (ps_if (pt_cmp (pc_notN (pv 6)))
      (pss_one (ps_expr (pe_bm F.plainAttrs_list F.slot_list_append F.type_list_append mt_append (pv 3) (pa_cons (pv 6) pa_nil))))
      pss_nil)
    (pss_cons (ps_aug (i := 2) sc_growths_at.nd rfl (.inl rfl) (pv 5) ip_sub)
    (pss_one (ps_aug (i := 1) sc_growths_at.nd rfl (.inl rfl) pe_int ip_sub))))))
  (pss_one (ps_ret (pv 3))))), ?_⟩
  refine ⟨(by show 0 ≤ sizeLine; decide), fun ra hra => ?_⟩
  have e0 : ∀ xs, Same H (upd H ra (.lst xs)) := fun xs => same_upd hra
  refine ⟨fun j σ H' => ∃ (h' : Nat) (c' : Gf.Cell) (x4 x5 x6 : Option V) (xs : List V) (rs : List (List Int)), σ = [some (.ref f), some (.int (j : Int)), some (.int (h' : Int)), some (.ref ra), x4, x5, x6] ∧ H' = upd H ra (.lst xs) ∧ Paired (RowV1 K H) xs rs ∧ (Gf.layerAt n L j)[h']? = some (some c') ∧ j ≤ k ∧ rs.length + j ≤ k ∧ rs ++ Gf.growthsM (Gf.layersM n L m) j h' = Gf.growthsM (Gf.layersM n L m) k h,
    ⟨k, h, c, none, none, none, [], [], rfl, rfl, .nil, hc, Nat.le_refl _, by simp, rfl⟩, ?_⟩
  rintro j σ H' ⟨h', c', x4, x5, x6, xs, rs, rfl, rfl, hp, hc', hj, hrl, hg⟩
  refine ⟨_, rfl, _, _, rfl, rfl, _, rfl, ?_⟩
  refine if2 (fun cj => ?_) (fun cj => ?_)
  · obtain ⟨j', rfl⟩ : ∃ j', j = j' + 1 := ⟨j - 1, by omega⟩
    obtain ⟨t, ht, t0, tl, a, ha⟩ := cell_back hcs hc'
    obtain ⟨vl, hvl, lb, rfl, bs, hbs, hbp⟩ := paired_at' hLs (Gf.layersM_get (n := n) (cs := L) (files := m) (k := j' + 1) (by omega))
    obtain ⟨vc, hvc, cx⟩ := paired_at' hbp hc'
    obtain ⟨tc, gv, rfl, htc, hgv⟩ := cx
    have step : Gf.growthsM (Gf.layersM n L m) (j' + 1) (h' : Int) = (match c'.g with
        | some g => [g]
        | none => []) ++ Gf.growthsM (Gf.layersM n L m) j' ((h' : Int) - t) := by
      show (match Gf.cellAt (Gf.layersM n L m) (j' + 1) (h' : Int) with
        | none => []
        | some c => (match c.g with
          | some g => [g]
          | none => []) ++ Gf.growthsM (Gf.layersM n L m) j' ((h' : Int) - c.t.getD 0)) = _
      rw [Gf.cellAt_layers (by omega)]
      have e : ((h' : Int)).toNat = h' := by omega
      rw [e, hc']
      simp only [Option.join_some, ht, Option.getD_some]
    have eh : (((((h' : Int) - t).toNat : Nat)) : Int) = (h' : Int) - t := by omega
    refine ⟨_, fun _ _ z => z, ?_⟩
    refine ⟨_, rfl, _, rfl, f, ys, _, .ref lb, rfl, rfl, sqL_keep (same_ext (e0 xs)) hys, atI_nat hvl, _, rfl, lb, bs, _, .ref tc, rfl, rfl, sqL_keep (same_ext (e0 xs)) hbs, atI_nat hvc, tc, _, rfl, sqT_keep (same_ext (e0 xs)) htc, rfl, _, _, rfl, _, _, rfl, _, _, rfl, rfl, ?_⟩
    rw [ht]
    cases hcg : c'.g with
    | none =>
      rw [hcg] at hgv
      have hgv' : gv = .non := hgv
      subst hgv'
      refine ⟨_, rfl, _, rfl, ifNN rfl ⟨_, rfl, _, rfl, _, _, rfl, rfl, _, rfl, _, _, rfl, rfl, ?_⟩⟩
      refine ⟨j', Nat.lt_succ_self _, ((h' : Int) - t).toNat, a, some (.int c'.i), some (.int t), some .non, xs, rs, ?_, rfl, hp, ha, by omega, by omega, ?_⟩
      · rw [eh]
        have e : ((j' + 1 : Nat) : Int) - 1 = (j' : Int) := by omega
        show [_, some (V.int (((j' + 1 : Nat) : Int) - 1)), _, _, _, _, _] = _
        rw [e]
        rfl
      · rw [eh, ← hg, step, hcg] <;> rfl
    | some g =>
      rw [hcg] at hgv
      obtain ⟨l, rfl, hl⟩ := hgv
      refine ⟨_, rfl, _, rfl, ifN (fun z => by cases z) ?_⟩
      have xl := paired_len hp
      refine ⟨_, rfl, .inl ⟨rfl, xs, SqL.of upd_same⟩, _, rfl, ra, xs, _, rfl, rfl, upd_same, by rw [sizeLine_eq]; omega, ?_⟩
      rw [upd_upd]
      refine ⟨_, rfl, _, rfl, _, _, rfl, rfl, _, rfl, _, _, rfl, rfl, ?_⟩
      refine ⟨j', Nat.lt_succ_self _, ((h' : Int) - t).toNat, a, some (.int c'.i), some (.int t), some (.ref l), xs ++ [.ref l], rs ++ [g], ?_, rfl, paired_snoc ⟨l, rfl, hl⟩ hp, ha, by omega, by rw [List.length_append, List.length_singleton]; omega, ?_⟩
      · rw [eh]
        have e : ((j' + 1 : Nat) : Int) - 1 = (j' : Int) := by omega
        show [_, some (V.int (((j' + 1 : Nat) : Int) - 1)), _, _, _, _, _] = _
        rw [e]
        rfl
      · rw [eh, ← hg, step, hcg, List.append_assoc]
  · have j0 : j = 0 := by omega
    subst j0
    have hg' : rs = Gf.growthsM (Gf.layersM n L m) k h := by rw [← hg]; exact (List.append_nil _).symm
    refine ⟨_, rfl, q _ ra (e0 xs) ⟨xs, upd_same, ?_⟩⟩
    rw [← hg']
    exact paired_mono hp fun _ _ z => z.keep (same_ext (e0 xs))
end
end Gt
/-! ## GfK5 -/
set_option Elab.async false
set_option linter.all false
set_option maxRecDepth 100000
set_option maxHeartbeats 4000000
namespace Gt
open PySem PySem.Spec PyProof.Rows L2 Wm
theorem ifor {d p q A B : Prop} [Decidable d] (h : d ↔ p) {G : Prop} (hq : (q → A) → (¬ q → B) → G) (h1 : p ∨ q → A) (h2 : ¬ (p ∨ q) → B) : if decide d = true then (if true = true then A else B) else G := by
  by_cases c : d
  · exact ifT c (iteT (h1 (.inl (h.mp c))))
  · exact ifF c (hq (fun z => h1 (.inr z)) fun z => h2 fun y => y.elim (fun x => c (h.mpr x)) z)
section
variable {P : Program} {w : World} {K : PySem.W.Frag} {mg : Str → Option Value} {base : Heap}
theorem ok_short_choices (T : Txt K mg) : CalC P w K mg base 4 "short_choices" (spShort K) := by
  refine calC_of T.f_short_choices T.g_short_choices sc_short_choices (fun _ _ _ _ _ _ us hl => match us, hl with | [_, _], _ => rfl) (fun vs H Q E h => by obtain ⟨a, b, n, rfl, hb, ok, hn, q⟩ := h; rfl) fun cdv A outer s H vs Q E hr h => ?_
  obtain ⟨a, b, n, rfl, hb, ok, hn, q⟩ := h
  refine ⟨_, (pss_cons (ps_set (i := 2) sc_short_choices.nd rfl (Or.inl rfl) (pe_lst pa_nil))
  (pss_cons (ps_for PassesOwn.never rfl (pi_range1 rfl T.b_range (pa_cons (pv 1) pa_nil)) (pg_name (i := 3) sc_short_choices.nd rfl (Or.inl rfl))
    (pss_one (ps_if (PW.pt (pw_or (pt_cmpR op_eq (pv 3) pe_int (nomark _)) (pw_or1 (pt_cmpR op_ge (pv 3) (pe_prc (ok_Book_first T) hr (by decide) (pv 0)) (nomark _)))))
      (pss_cons (ps_set (i := 4) sc_short_choices.nd rfl (Or.inl rfl) (pe_callB (call_min2 rfl) rfl T.b_min (by decide +kernel) (pa_cons (pe_op op_sub (pe_callTy call_int1 rfl T.b_int (by decide +kernel) (pa_cons (pe_mtc (ok_Book_step T) hr (by decide) (pv 0) (pa_cons (pv 3) pa_nil)) pa_nil)) pe_int) (pa_cons (pe_op op_sub (pv 1) (pv 3)) pa_nil))))
      (pss_one (ps_for PassesOwn.never rfl (pi_range2 rfl T.b_range (pa_cons pe_int (pa_cons (pe_op op_add (pv 4) pe_int) pa_nil))) (pg_name (i := 5) sc_short_choices.nd rfl (Or.inl rfl))
        (pss_one (ps_expr (pe_bm F.plainAttrs_list F.slot_list_append F.type_list_append mt_append (pv 2) (pa_cons (pe_tup (pa_cons (pe_op op_add (pv 3) (pv 5)) (pa_cons (pe_op op_sub (pv 5) pe_int) (pa_cons (pe_ifExp (pt_cmpR op_eq (pv 3) pe_int (nomark _)) (pe_lst (pa_cons pe_int pa_nil)) (pe_lst (pa_cons (pv 3) (pa_cons pe_int pa_nil)))) pa_nil)))) pa_nil)))))))
      pss_nil)))
  (pss_one (ps_ret (pv 2))))), ?_⟩
  refine ⟨(by show 0 ≤ sizeLine; decide), fun fd hfd => ?_⟩
  refine ⟨_, rfl, n, rfl, by omega, by omega, ?_⟩
  refine for_range (lo := 0) (n := n.toNat) (fun i σ H' => (∃ x3 x4 x5, σ = [some (.ref a), some (.int n), some (.ref fd), x3, x4, x5]) ∧ ∃ xs G, Snap H [fd] G H' ∧ H' fd = some (.lst xs) ∧ Paired (ShV1 K G) xs (Gf.shortsTo b n i)) ?_ ?_ ?_
  · exact ⟨⟨_, _, _, rfl⟩, [], H, Snap.of (fun z hz => by rw [List.mem_singleton.mp hz]; exact hfd) (same_upd hfd), upd_same, .nil⟩
  · rintro i σ H1 hi ⟨⟨x3, x4, x5, rfl⟩, xs, G, s, hf, hp⟩
    have hb1 : BookAt K H1 a b := hb.keep (same_ext s.all)
    have bok := bk_ok hb ok
    have st : Gf.shortsTo b n (i + 1) = Gf.shortsTo b n i ++ Gf.shortsAt b n (i : Int) := rfl
    have no : ¬ ((i : Int) = 0 ∨ b.first ≤ (i : Int)) → (∃ xs G, Snap H [fd] G H1 ∧ H1 fd = some (.lst xs) ∧ Paired (ShV1 K G) xs (Gf.shortsTo b n (i + 1))) := fun c => by
      refine ⟨xs, G, s, hf, ?_⟩
      rw [st]
      unfold Gf.shortsAt
      rw [if_neg c, List.append_nil]
      exact hp
    have yes : ((i : Int) = 0 ∨ b.first ≤ (i : Int)) → ∃ m : Int, m = (if n - (i : Int) < Gf.stepB b (i : Int) - 1 then n - (i : Int) else Gf.stepB b (i : Int) - 1) ∧ m ≤ 300 ∧ -1 ≤ m ∧ Gf.shortsAt b n (i : Int) = (List.range m.toNat).map fun (k : Nat) => (((i : Int) + (1 + (k : Int)), (1 + (k : Int)) - 1, if (i : Int) = 0 then [1] else [(i : Int), 1]) : Gf.Sc) := fun c => by
      refine ⟨_, rfl, ?_, ?_, ?_⟩
      · split <;> omega
      · have := Gf.step_pos bok (i : Int)
        split <;> omega
      · unfold Gf.shortsAt
        rw [if_pos c]
    have body : ((i : Int) = 0 ∨ b.first ≤ (i : Int)) → ∀ (m : Int), m = (if n - (i : Int) < Gf.stepB b (i : Int) - 1 then n - (i : Int) else Gf.stepB b (i : Int) - 1) → True := fun _ _ _ => trivial
    have e0 : (0 : Int) + (i : Int) = (i : Int) := Int.zero_add _
    refine ⟨_, rfl, rfl, _, rfl, ?_⟩
    refine ifor (p := (i : Int) = 0) (q := b.first ≤ (i : Int)) (by rw [e0]; exact ⟨fun z => V.int.inj z, fun z => by rw [z]⟩) (fun k1 k2 => ⟨_, rfl, rd_first hb1 rfl ⟨_, _, rfl, rfl, _, rfl, ?_⟩⟩) (fun c => ?_) (fun c => ?_)
    · exact if2 (fun z => k1 (by rw [e0] at z; exact z)) (fun z => k2 (fun y => z (by rw [e0]; exact y)))
    · obtain ⟨m, hm, m1, m2, hsm⟩ := yes c
      refine rd_step hb1 rfl rfl (by omega) (.inl ⟨_, rfl, _, _, rfl, rfl, _, rfl, _, rfl, _, _, rfl, rfl, _, _, rfl, ?_⟩)
      rw [e0, ← hm]
      refine ⟨_, rfl, _, _, rfl, rfl, 1, m + 1, rfl, by omega, ?_⟩
      refine for_range (lo := 1) (n := (m + 1 - 1).toNat) (fun j σ H' => (∃ x5, σ = [some (.ref a), some (.int n), some (.ref fd), some (.int (i : Int)), some (.int m), x5]) ∧ ∃ xs G, Snap H [fd] G H' ∧ H' fd = some (.lst xs) ∧ Paired (ShV1 K G) xs (Gf.shortsTo b n i ++ (List.range j).map fun (k : Nat) => (((i : Int) + (1 + (k : Int)), (1 + (k : Int)) - 1, if (i : Int) = 0 then [1] else [(i : Int), 1]) : Gf.Sc))) ?_ ?_ ?_
      · exact ⟨⟨_, rfl⟩, xs, G, s, hf, by rw [List.range_zero, List.map_nil, List.append_nil]; exact hp⟩
      · rintro j σ H2 hj ⟨⟨x5', rfl⟩, xs2, G2, s2, hf2, hp2⟩
        have l2 := paired_len hp2
        rw [List.length_append, List.length_map, List.length_range] at l2
        have l3 := shortsTo_len (b := b) hn i
        have go : ∀ l t, H2 l = none → upd H2 l (.lst ((if (i : Int) = 0 then [1] else [(i : Int), 1]).map V.int)) t = none →
            ∃ Hn, Hn = upd (upd (upd H2 l (.lst ((if (i : Int) = 0 then [1] else [(i : Int), 1]).map V.int))) t (.tup [.int ((i : Int) + (1 + (j : Int))), .int ((1 + (j : Int)) - 1), .ref l])) fd (.lst (xs2 ++ [.ref t])) ∧ (upd (upd H2 l (.lst ((if (i : Int) = 0 then [1] else [(i : Int), 1]).map V.int))) t (.tup [.int ((i : Int) + (1 + (j : Int))), .int ((1 + (j : Int)) - 1), .ref l])) fd = some (.lst xs2) ∧ ∃ xs G, Snap H [fd] G Hn ∧ Hn fd = some (.lst xs) ∧ Paired (ShV1 K G) xs (Gf.shortsTo b n i ++ (List.range (j + 1)).map fun (k : Nat) => (((i : Int) + (1 + (k : Int)), (1 + (k : Int)) - 1, if (i : Int) = 0 then [1] else [(i : Int), 1]) : Gf.Sc)) := fun l t hl ht => by
          have y1 : fd ≠ l := ne_of_none hf2 hl
          have hf3 : upd H2 l (.lst ((if (i : Int) = 0 then [1] else [(i : Int), 1]).map V.int)) fd = some (.lst xs2) := by rw [upd_ne y1]; exact hf2
          have y2 : fd ≠ t := ne_of_none hf3 ht
          have lt : l ≠ t := fun z => by rw [← z, upd_same] at ht; cases ht
          have s3 := ((s2.add (o := .lst ((if (i : Int) = 0 then [1] else [(i : Int), 1]).map V.int)) hl (fun z hz => by rw [List.mem_singleton.mp hz]; exact y1)).add (o := .tup [.int ((i : Int) + (1 + (j : Int))), .int ((1 + (j : Int)) - 1), .ref l]) ht (fun z hz => by rw [List.mem_singleton.mp hz]; exact y2))
          have e2 : Same G2 _ := (same_upd (s2.sub.free hl)).trans (same_upd (o := .tup [.int ((i : Int) + (1 + (j : Int))), .int ((1 + (j : Int)) - 1), .ref l]) ((s2.add hl (fun z hz => by rw [List.mem_singleton.mp hz]; exact y1)).sub.free ht))
          refine ⟨_, rfl, by rw [upd_ne y2]; exact hf3, _, _, s3.put (by simp), upd_same, ?_⟩
          rw [List.range_succ, List.map_append, ← List.append_assoc]
          exact paired_snoc ⟨t, l, rfl, SqT.of upd_same, SqL.of (by rw [upd_ne lt, upd_same])⟩ (paired_mono hp2 fun _ _ z => z.keep (same_ext e2))
        refine ⟨_, rfl, .inl ⟨rfl, xs2, SqL.of hf2⟩, ?_⟩
        refine ⟨_, rfl, _, rfl, _, _, rfl, rfl, _, rfl, _, _, rfl, rfl, ?_⟩
        refine ⟨_, rfl, rfl, _, rfl, ?_⟩
        refine if2 (fun c0 => ?_) (fun c0 => ?_)
        · have c1 : (i : Int) = 0 := V.int.inj c0
          refine ⟨(by show 1 ≤ sizeLine; decide), fun l hl => ⟨(by show 3 ≤ sizeLine; decide), fun t ht => ?_⟩⟩
          have el : ((if (i : Int) = 0 then [1] else [(i : Int), 1]).map V.int) = [V.int 1] := by rw [if_pos c1] <;> rfl
          obtain ⟨Hn, e, h1, h2⟩ := go l t hl (by rw [el]; exact ht)
          rw [el] at e h1
          refine ⟨fd, xs2, _, rfl, rfl, h1, by rw [sizeLine_eq]; omega, ⟨_, rfl⟩, ?_⟩
          rw [← e]
          exact h2
        · have c1 : ¬ (i : Int) = 0 := fun z => c0 (by rw [z])
          refine ⟨_, rfl, (by show 2 ≤ sizeLine; decide), fun l hl => ⟨(by show 3 ≤ sizeLine; decide), fun t ht => ?_⟩⟩
          have el : ((if (i : Int) = 0 then [1] else [(i : Int), 1]).map V.int) = [V.int (i : Int), V.int 1] := by rw [if_neg c1] <;> rfl
          obtain ⟨Hn, e, h1, h2⟩ := go l t hl (by rw [el]; exact ht)
          rw [el] at e h1
          refine ⟨fd, xs2, _, rfl, rfl, h1, by rw [sizeLine_eq]; omega, ⟨_, rfl⟩, ?_⟩
          rw [← e]
          exact h2
      · rintro σ H2 ⟨⟨x5', rfl⟩, h2⟩
        refine ⟨⟨_, _, _, rfl⟩, ?_⟩
        rw [st, hsm]
        have e : (m + 1 - 1).toNat = m.toNat := by congr 1; omega
        rw [e] at h2
        exact h2
    · exact ⟨⟨_, _, _, rfl⟩, no c⟩
  · rintro σ H1 ⟨⟨x3, x4, x5, rfl⟩, xs, G, s, hf, hp⟩
    exact ⟨_, rfl, q H1 fd s.all ⟨xs, hf, paired_mono hp fun _ _ z => z.keep s.keep⟩⟩
end
end Gt
/-! ## GfK6 -/
set_option Elab.async false
set_option linter.all false
set_option maxRecDepth 100000
set_option maxHeartbeats 4000000
namespace Gt
open PySem PySem.Spec PyProof.Rows L2 Wm
theorem growths_len (L : List Gf.Layer) : ∀ (k : Nat) (h : Int), (Gf.growthsM L k h).length ≤ k
  | 0, _ => Nat.le_refl _
  | k + 1, h => by
    show (match Gf.cellAt L (k + 1) h with
      | none => []
      | some c => (match c.g with
        | some g => [g]
        | none => []) ++ Gf.growthsM L k (h - c.t.getD 0)).length ≤ k + 1
    cases Gf.cellAt L (k + 1) h with
    | none => exact Nat.zero_le _
    | some c =>
      have := growths_len L k (h - c.t.getD 0)
      cases hg : c.g with
      | none => simp only [hg, List.nil_append]; omega
      | some g => simp only [hg, List.singleton_append, List.length_cons]; omega
theorem stepB_none {L : List Gf.Layer} {n : Int} {files : Nat} {B : Gf.Best} {c : Gf.Sc} (h : Gf.cellAt L (files - 1) (n - c.1) = none) : Gf.bestStepB L n files B c = B := by
  unfold Gf.bestStepB
  rw [h]
theorem stepB_some {L : List Gf.Layer} {n : Int} {files : Nat} {B : Gf.Best} {c : Gf.Sc} {a : Gf.Cell} (h : Gf.cellAt L (files - 1) (n - c.1) = some a) : Gf.bestStepB L n files B c = if B.i < a.i + c.2.1 then ⟨a.i + c.2.1, n, Gf.growthsM L (files - 1) (n - c.1) ++ [c.2.2]⟩ else B := by
  unfold Gf.bestStepB
  rw [h]
theorem best_cell {n : Int} {L : List Gf.Ch} {m k : Nat} {h : Int} (hk : k ≤ m) : Gf.cellAt (Gf.layersM n L m) k h = ((Gf.layerAt n L k)[h.toNat]?).join := Gf.cellAt_layers hk
section
variable {P : Program} {w : World} {K : PySem.W.Frag} {mg : Str → Option Value} {base : Heap}
theorem ok_fullest (T : Txt K mg) : CalC P w K mg base 6 "fullest" (spFull K) := by
  refine calC_of T.f_fullest T.g_fullest sc_fullest (fun _ _ _ _ _ _ us hl => match us, hl with | [_, _, _], _ => rfl) (fun vs H Q E h => by obtain ⟨a, b, n, k, rfl, hb, ok, hn, hk, q⟩ := h; rfl) fun cdv A outer s H vs Q E hr h => ?_
  obtain ⟨a, b, n, k, rfl, hb, ok, hn, hk, q⟩ := h
  refine ⟨_, (pss_cons (ps_set (i := 3) sc_fullest.nd rfl (Or.inl rfl) (pe_cc (ok_layers T) hr (by decide) rfl (pa_cons (pe_cc (ok_whole_choices T) hr (by decide) rfl (pa_cons (pv 0) (pa_cons (pv 1) pa_nil))) (pa_cons (pv 1) (pa_cons (pv 2) pa_nil)))))
  (pss_cons (ps_set (i := 4) sc_fullest.nd rfl (Or.inl rfl) (pe_tup (pa_cons pe_int (pa_cons pe_int (pa_cons (pe_lst pa_nil) pa_nil)))))
  (pss_cons (ps_for PassesOwn.never rfl (pi_enum rfl T.b_enumerate (pa_cons (pe_ix (r := rIxL K) ix_list (pv 3) (pv 2) (fun _ _ => rfl)) pa_nil)) (pg_tup rfl (pgs_cons (pg_name (i := 5) sc_fullest.nd rfl (Or.inl rfl)) (pgs_cons (pg_name (i := 6) sc_fullest.nd rfl (Or.inl rfl)) pgs_nil)))
    (pss_one (ps_if (PW.pt (pw_and (pt_cmp (pc_notN (pv 6))) (pw_and1 (pt_cmpR op_gt (pe_ix (r := rIxT K) ix_tup (pv 6) pe_int (fun _ _ => rfl)) (pe_ix (r := rIxT K) ix_tup (pv 4) pe_int (fun _ _ => rfl)) (nomark _)))))
      (pss_one (ps_set (i := 4) sc_fullest.nd rfl (Or.inl rfl) (pe_tup (pa_cons (pe_ix (r := rIxT K) ix_tup (pv 6) pe_int (fun _ _ => rfl)) (pa_cons (pv 5) (pa_cons (pe_cc (ok_growths_at T) hr (by decide) rfl (pa_cons (pv 3) (pa_cons (pv 2) (pa_cons (pv 5) pa_nil)))) pa_nil))))))
      pss_nil)))
  (pss_cons (ps_if (pt_cmpR op_eq (pv 2) pe_int (nomark _))
    (pss_one (ps_ret (pv 4)))
    pss_nil)
  (pss_cons (ps_for PassesOwn.never rfl (pi_list (pe_cc (ok_short_choices T) hr (by decide) rfl (pa_cons (pv 0) (pa_cons (pv 1) pa_nil)))) (pg_tup rfl (pgs_cons (pg_name (i := 7) sc_fullest.nd rfl (Or.inl rfl)) (pgs_cons (pg_name (i := 8) sc_fullest.nd rfl (Or.inl rfl)) (pgs_cons (pg_name (i := 9) sc_fullest.nd rfl (Or.inl rfl)) pgs_nil))))
    (pss_cons (ps_set (i := 10) sc_fullest.nd rfl (Or.inl rfl) (pe_ix (r := rIxL K) ix_list (pe_ix (r := rIxL K) ix_list (pv 3) (pe_op op_sub (pv 2) pe_int) (fun _ _ => rfl)) (pe_op op_sub (pv 1) (pv 7)) (fun _ _ => rfl)))
    (pss_one (ps_if (PW.pt (pw_and (pt_cmp (pc_notN (pv 10))) (pw_and1 (pt_cmpR op_gt (pe_op op_add (pe_ix (r := rIxT K) ix_tup (pv 10) pe_int (fun _ _ => rfl)) (pv 8)) (pe_ix (r := rIxT K) ix_tup (pv 4) pe_int (fun _ _ => rfl)) (nomark _)))))
      (pss_one (ps_set (i := 4) sc_fullest.nd rfl (Or.inl rfl) (pe_tup (pa_cons (pe_op op_add (pe_ix (r := rIxT K) ix_tup (pv 10) pe_int (fun _ _ => rfl)) (pv 8)) (pa_cons (pv 1) (pa_cons (pe_op op_cat (pe_cc (ok_growths_at T) hr (by decide) rfl (pa_cons (pv 3) (pa_cons (pe_op op_sub (pv 2) pe_int) (pa_cons (pe_op op_sub (pv 1) (pv 7)) pa_nil)))) (pe_lst (pa_cons (pv 9) pa_nil))) pa_nil))))))
      pss_nil))))
  (pss_one (ps_ret (pv 4)))))))), ?_⟩
  have bok := bk_ok hb ok
  have win := whole_in bok (n := n)
  have win0 : ∀ c ∈ Gf.wholeM b n, 0 ≤ c.1 ∧ c.1 ≤ n := fun c hc => ⟨by have := (win c hc).1; omega, (win c hc).2⟩
  refine ⟨_, rfl, _, rfl, a, b, n, rfl, hb, ok, by omega, fun H1 d1 s1 _ hch => ⟨_, rfl, _, rfl, d1, Gf.wholeM b n, n, k, rfl, hch, win, by omega, hk, fun H2 f s2 hLs => ?_⟩⟩
  refine ⟨(by show 0 ≤ sizeLine; decide), fun r0 hr0 => ⟨(by show 3 ≤ sizeLine; decide), fun t0 ht0 => ?_⟩⟩
  have f3 : Same H2 (upd (upd H2 r0 (.lst [])) t0 (.tup [.int 0, .int 0, .ref r0])) := (same_upd hr0).trans (same_upd ht0)
  have rt : r0 ≠ t0 := fun z => by rw [← z, upd_same] at ht0; cases ht0
  have hB0 : BestV K (upd (upd H2 r0 (.lst [])) t0 (.tup [.int 0, .int 0, .ref r0])) t0 Gf.best0 := ⟨r0, SqT.of upd_same, [], by rw [upd_ne rt, upd_same], .nil⟩
  generalize hH3 : upd (upd H2 r0 (.lst [])) t0 (.tup [.int 0, .int 0, .ref r0]) = H3 at f3 hB0
  have hL3 := hLs.keep (same_ext f3)
  obtain ⟨ys, hys, hyp⟩ := id hL3
  obtain ⟨vl, hvl, lb, rfl, bs, hbs, hbp⟩ := paired_at' hyp (Gf.layersM_get (n := n) (cs := Gf.wholeM b n) (files := k) (k := k) (Nat.le_refl k))
  have bl : bs.length = (n + 1).toNat := by rw [paired_len hbp, Gf.layerAt_length]
  refine ⟨_, rfl, _, rfl, f, ys, _, .ref lb, rfl, rfl, hys, atI_nat hvl, lb, bs, rfl, hbs, ?_⟩
  refine for_it (walk_enum (K := K) (a := lb) (xs := bs)) (fun i σ H' => (∃ x5 x6 x7 x8 x9 x10 tb, σ = [some (.ref a), some (.int n), some (.int (k : Int)), some (.ref f), some (.ref tb), x5, x6, x7, x8, x9, x10] ∧ BestV K H' tb (Gf.bestTo (Gf.layersM n (Gf.wholeM b n) k) k (Gf.layerAt n (Gf.wholeM b n) k) i)) ∧ Same H3 H') ?_ ?_ ?_ ?_
  · exact ⟨⟨_, _, _, _, _, _, t0, rfl, hB0⟩, Same.refl _⟩
  · rintro i σ H' _ ⟨_, s⟩
    exact sqL_keep (same_ext s) hbs
  · rintro i x σ H' H4 hi ⟨⟨x5, x6, x7, x8, x9, x10, tb, rfl, hB⟩, s⟩ ⟨T2, xa, xb, rfl, hT, rfl, hxa, hxb⟩
    have exa : xa = .int (i : Int) := (Option.some.inj hxa).symm
    subst exa
    have hxb : bs[i]? = some xb := hxb
    obtain ⟨o, ho, cx⟩ := paired_at hbp hxb
    have s4 : Same H3 (upd H' T2 (.tup [.int (i : Int), xb])) := s.trans (same_upd hT)
    have hB4 := hB.keep (same_ext (same_upd (o := .tup [.int (i : Int), xb]) hT))
    have cx4 := CellV.keep (same_ext s4) cx
    have hL4 := hL3.keep (same_ext s4)
    have stp : Gf.bestTo (Gf.layersM n (Gf.wholeM b n) k) k (Gf.layerAt n (Gf.wholeM b n) k) (i + 1) = Gf.bestStepA (Gf.layersM n (Gf.wholeM b n) k) k (Gf.bestTo (Gf.layersM n (Gf.wholeM b n) k) k (Gf.layerAt n (Gf.wholeM b n) k) i) i o := by
      show Gf.bestStepA _ _ _ i (((Gf.layerAt n (Gf.wholeM b n) k)[i]?).join) = _
      rw [ho] <;> rfl
    have hT5 : SqT K (upd H' T2 (.tup [.int (i : Int), xb])) T2 [.int (i : Int), xb] := SqT.of upd_same
    generalize upd H' T2 (.tup [.int (i : Int), xb]) = H5 at s4 hB4 cx4 hL4 hT5
    refine ⟨T2, [.int (i : Int), xb], rfl, hT5, rfl, _, _, rfl, _, _, rfl, rfl, ?_⟩
    refine ⟨_, rfl, _, rfl, ?_⟩
    cases o with
    | none =>
      have cx' : xb = .non := cx4
      subst cx'
      refine ifNN rfl (iteF ⟨⟨_, _, _, _, _, _, tb, rfl, ?_⟩, s4⟩)
      rw [stp]
      exact hB4
    | some c =>
      obtain ⟨t2, gv, rfl, ht2, hg2⟩ := cx4
      obtain ⟨r, hr1, hr2⟩ := id hB4
      refine ifN (fun z => by cases z) ⟨_, rfl, t2, _, _, _, rfl, rfl, ht2, atI_nat (j := 0) rfl, _, rfl, tb, _, _, _, rfl, rfl, hr1, atI_nat (j := 0) rfl, _, _, rfl, rfl, _, rfl, ?_⟩
      refine if2 (fun lt => ?_) (fun lt => ?_)
      · refine ⟨_, rfl, t2, _, _, _, rfl, rfl, ht2, atI_nat (j := 0) rfl, _, rfl, _, rfl, _, rfl, _, rfl, f, Gf.wholeM b n, n, k, k, i, rfl, hL4, win0, ⟨Nat.le_refl k, hk⟩, ⟨c, ho⟩, fun H6 rr s6 hrr => ⟨(by show 3 ≤ sizeLine; decide), fun t6 ht6 => ?_⟩⟩
        have s7 : Same H6 (upd H6 t6 (.tup [.int c.i, .int (i : Int), .ref rr])) := same_upd ht6
        refine ⟨⟨_, _, _, _, _, _, t6, rfl, ?_⟩, s4.trans (s6.trans s7)⟩
        rw [stp]
        show BestV K _ t6 (if _ then _ else _)
        rw [if_pos lt]
        exact ⟨rr, SqT.of upd_same, hrr.keep (same_ext s7)⟩
      · refine ⟨⟨_, _, _, _, _, _, tb, rfl, ?_⟩, s4⟩
        rw [stp]
        show BestV K _ tb (if _ then _ else _)
        rw [if_neg lt]
        exact hB4
  · rintro σ H' ⟨⟨x5, x6, x7, x8, x9, x10, tb, rfl, hB⟩, s⟩
    have eA : Gf.bestTo (Gf.layersM n (Gf.wholeM b n) k) k (Gf.layerAt n (Gf.wholeM b n) k) bs.length = Gf.fullA b n k := by rw [bl] <;> rfl
    rw [eA] at hB
    have sH : Same H H' := s1.trans (s2.trans (f3.trans s))
    refine ⟨_, rfl, rfl, _, rfl, ?_⟩
    refine if2 (fun c0 => ?_) (fun c0 => ?_)
    · have k0 : k = 0 := by have := V.int.inj c0; omega
      refine ⟨_, rfl, q H' tb sH ?_⟩
      unfold Gf.fullestM
      rw [if_pos k0]
      exact hB
    · obtain ⟨k', rfl⟩ : ∃ k', k = k' + 1 := ⟨k - 1, by
        have : k ≠ 0 := fun z => c0 (by rw [z] <;> rfl)
        omega⟩
      refine ⟨_, rfl, _, rfl, a, b, n, rfl, hb.keep (same_ext sH), ok, by omega, fun H7 ls s7 hsh => ?_⟩
      obtain ⟨zs, hzs, hzp⟩ := hsh
      refine ⟨ls, rfl, ⟨zs, SqL.of hzs⟩, ?_⟩
      have hL7 := hL3.keep (same_ext (s.trans s7))
      refine for_list (K := K) (a := ls) (xs := zs) (fun i σ H' => (∃ x5 x6 x7 x8 x9 x10 tb, σ = [some (.ref a), some (.int n), some (.int ((k' + 1 : Nat) : Int)), some (.ref f), some (.ref tb), x5, x6, x7, x8, x9, x10] ∧ BestV K H' tb (((Gf.shortsM b n).take i).foldl (Gf.bestStepB (Gf.layersM n (Gf.wholeM b n) (k' + 1)) n (k' + 1)) (Gf.fullA b n (k' + 1)))) ∧ Same H7 H') ?_ ?_ ?_ ?_
      · exact ⟨⟨_, _, _, _, _, _, tb, rfl, hB.keep (same_ext s7)⟩, Same.refl _⟩
      · rintro i σ H8 _ ⟨_, s8⟩
        exact SqL.of (s8 _ _ hzs)
      · rintro i x σ H8 hx ⟨⟨x5', x6', x7', x8', x9', x10', tb', rfl, hB8⟩, s8⟩
        obtain ⟨c, hc, t3, l3, rfl, h3, h4⟩ := paired_at hzp hx
        obtain ⟨hh, ff, e1, e2, f1, f2, f3', e3⟩ := (Gf.shorts_sound _ c (List.mem_of_getElem? hc)).how
        have h0 : 0 ≤ hh := by rcases e3 with ⟨z, _⟩ | ⟨_, z, _⟩ <;> omega
        have ec : n - c.1 = (((n - c.1).toNat : Nat) : Int) := by omega
        have hL8 := hL7.keep (same_ext s8)
        obtain ⟨ys8, hys8, hyp8⟩ := id hL8
        obtain ⟨vl8, hvl8, lb8, rfl, bs8, hbs8, hbp8⟩ := paired_at' hyp8 (Gf.layersM_get (n := n) (cs := Gf.wholeM b n) (files := k' + 1) (k := k') (by omega))
        have bl8 : bs8.length = (n + 1).toNat := by rw [paired_len hbp8, Gf.layerAt_length]
        obtain ⟨v8, hv8⟩ : ∃ v8, bs8[(n - c.1).toNat]? = some v8 := ⟨bs8[(n - c.1).toNat]'(by omega), List.getElem?_eq_getElem _⟩
        obtain ⟨o, ho, cx⟩ := paired_at hbp8 hv8
        have stp : ((Gf.shortsM b n).take (i + 1)).foldl (Gf.bestStepB (Gf.layersM n (Gf.wholeM b n) (k' + 1)) n (k' + 1)) (Gf.fullA b n (k' + 1)) = Gf.bestStepB (Gf.layersM n (Gf.wholeM b n) (k' + 1)) n (k' + 1) (((Gf.shortsM b n).take i).foldl (Gf.bestStepB (Gf.layersM n (Gf.wholeM b n) (k' + 1)) n (k' + 1)) (Gf.fullA b n (k' + 1))) c := by
          rw [take_snoc hc, List.foldl_append] <;> rfl
        have ca : Gf.cellAt (Gf.layersM n (Gf.wholeM b n) (k' + 1)) (k' + 1 - 1) (n - c.1) = o := by
          show Gf.cellAt _ k' _ = _
          rw [Gf.cellAt_layers (by omega), ho] <;> rfl
        have kk : ((k' + 1 : Nat) : Int) - 1 = (k' : Int) := by omega
        refine ⟨t3, _, rfl, sqT_keep (same_ext s8) h3, rfl, _, _, rfl, _, _, rfl, _, _, rfl, rfl, ?_⟩
        refine ⟨_, rfl, _, rfl, _, _, rfl, rfl, f, ys8, _, .ref lb8, rfl, rfl, hys8, by rw [kk]; exact atI_nat hvl8, _, rfl, _, rfl, _, _, rfl, rfl, lb8, bs8, _, v8, rfl, rfl, hbs8, by rw [ec]; exact atI_nat hv8, ?_⟩
        refine ⟨_, rfl, _, rfl, ?_⟩
        cases o with
        | none =>
          have cx' : v8 = .non := cx
          subst cx'
          refine ifNN rfl (iteF ⟨⟨_, _, _, _, _, _, tb', rfl, ?_⟩, s8⟩)
          rw [stp, stepB_none ca]
          exact hB8
        | some cc =>
          obtain ⟨t2, gv, rfl, ht2, hg2⟩ := cx
          obtain ⟨r, hr1, hr2⟩ := id hB8
          refine ifN (fun z => by cases z) ⟨_, rfl, t2, _, _, _, rfl, rfl, ht2, atI_nat (j := 0) rfl, _, rfl, _, _, rfl, rfl, _, rfl, tb', _, _, _, rfl, rfl, hr1, atI_nat (j := 0) rfl, _, _, rfl, rfl, _, rfl, ?_⟩
          refine if2 (fun lt => ?_) (fun lt => ?_)
          · refine ⟨_, rfl, t2, _, _, _, rfl, rfl, ht2, atI_nat (j := 0) rfl, _, rfl, _, _, rfl, rfl, _, rfl, _, rfl, _, rfl, _, _, rfl, rfl, _, rfl, _, rfl, _, _, rfl, rfl, f, Gf.wholeM b n, n, k' + 1, k', (n - c.1).toNat, (by show [V.ref f, V.int (((k' + 1 : Nat) : Int) - 1), V.int (n - c.1)] = _; rw [kk]; exact congrArg (fun z => [V.ref f, V.int (k' : Int), V.int z]) ec), hL8, win0, ⟨by omega, hk⟩, ⟨cc, ho⟩, fun H6 rr s6 hrr => ?_⟩
            obtain ⟨ws, hws, hwp⟩ := hrr
            refine ⟨_, rfl, (by show 1 ≤ sizeLine; decide), fun l5 hl5 => ?_⟩
            have rl : rr ≠ l5 := ne_of_none hws hl5
            have wl := paired_len hwp
            have gl : ws.length ≤ 1000 := by
              rw [wl]
              exact Nat.le_trans (growths_len _ _ _) (by omega)
            refine ⟨rr, l5, ws, _, rfl, rfl, by rw [upd_ne rl]; exact hws, upd_same, by rw [sizeLine_eq]; show ws.length + 1 ≤ _; omega, fun p5 hp5 => ⟨(by show 3 ≤ sizeLine; decide), fun t6 ht6 => ?_⟩⟩
            have pt : p5 ≠ t6 := fun z => by rw [← z, upd_same] at ht6; cases ht6
            have s7a : Same H6 _ := (same_upd (o := .lst [.ref l3]) hl5).trans ((same_upd (o := .lst (ws ++ [.ref l3])) hp5).trans (same_upd (o := .tup [.int (cc.i + c.2.1), .int n, .ref p5]) ht6))
            refine ⟨⟨_, _, _, _, _, _, t6, rfl, ?_⟩, s8.trans (s6.trans s7a)⟩
            rw [stp, stepB_some ca, if_pos lt]
            refine ⟨p5, SqT.of upd_same, _, by rw [upd_ne pt, upd_same], ?_⟩
            rw [ec]
            exact paired_snoc ⟨l3, rfl, sqL_keep (same_ext (s8.trans (s6.trans s7a))) h4⟩ (paired_mono hwp fun _ _ z => z.keep (same_ext s7a))
          · refine ⟨⟨_, _, _, _, _, _, tb', rfl, ?_⟩, s8⟩
            rw [stp, stepB_some ca, if_neg lt]
            exact hB8
      · rintro σ H8 ⟨⟨x5', x6', x7', x8', x9', x10', tb', rfl, hB8⟩, s8⟩
        refine ⟨_, rfl, q H8 tb' (sH.trans (s7.trans s8)) ?_⟩
        unfold Gf.fullestM
        rw [if_neg (by omega)]
        have zl : zs.length = (Gf.shortsM b n).length := paired_len hzp
        rw [zl, List.take_length] at hB8
        exact hB8
end
end Gt
/-! ## GfK7 -/
set_option Elab.async false
set_option linter.all false
set_option maxRecDepth 100000
set_option maxHeartbeats 4000000
namespace Gt
open PySem PySem.Spec PyProof.Rows L2 Wm
theorem paired_app {α β : Type} {R : α → β → Prop} : ∀ {as : List α} {bs : List β} {cs : List α} {ds : List β}, Paired R as bs → Paired R cs ds → Paired R (as ++ cs) (bs ++ ds)
  | _, _, _, _, .nil, h => h
  | _, _, _, _, .cons q t, h => .cons q (paired_app t h)
/-! ### rows of events -/
inductive Ev where
  | mk (j : Nat)
  | gr (j : Nat) (m : Int)
def nm (j : Nat) : Str := ⟨#[97 + j]⟩
def evT : Ev → List V
  | .mk j => [.str "make", .str (nm j)]
  | .gr j m => [.str "grow", .str (nm j), .int m]
def EvV (K : PySem.W.Frag) (G : Hp) (v : V) (e : Ev) : Prop := ∃ t, v = .ref t ∧ SqT K G t (evT e)
def RowEV (K : PySem.W.Frag) (G : Hp) (a : Addr) (evs : List Ev) : Prop := ∃ xs, G a = some (.lst xs) ∧ Paired (EvV K G) xs evs
theorem EvV.keep {K : PySem.W.Frag} {G G' : Hp} {v : V} {e : Ev} (x : LamX.ExtN G G') (h : EvV K G v e) : EvV K G' v e := by
  obtain ⟨t, h1, h2⟩ := h
  exact ⟨t, h1, sqT_keep x h2⟩
theorem RowEV.keep {K : PySem.W.Frag} {G G' : Hp} {a : Addr} {evs : List Ev} (x : LamX.ExtN G G') (h : RowEV K G a evs) : RowEV K G' a evs := by
  obtain ⟨xs, h1, h2⟩ := h
  exact ⟨xs, keep_lst x h1, paired_mono h2 fun _ _ z => z.keep x⟩
def rowsFrom : Nat → List (List Int) → List Ev
  | _, [] => []
  | j, g :: r => g.map (Ev.gr j) ++ rowsFrom (j + 1) r
def rowM (rows : List (List Int)) (k : Nat) : List Ev := (List.range k).map Ev.mk ++ rowsFrom 0 rows
theorem small_at {j : Nat} (h : j < 8) : atI (Str.ofString "abcdefghijklmnopqrstuvwxyz").cps.toList (j : Int) = some (97 + j) := by
  refine atI_nat ?_
  have : ∀ j, j < 8 → (Str.ofString "abcdefghijklmnopqrstuvwxyz").cps.toList[j]? = some (97 + j) := by decide +kernel
  exact this j h
def spRowOf (K : PySem.W.Frag) : Sp := fun vs H Q _ => ∃ (r : Addr) (rows : List (List Int)) (k : Nat), vs = [.ref r, .int k] ∧ RowsV K H r rows ∧ k ≤ 8 ∧ rows.length ≤ 8 ∧ (∀ g ∈ rows, g.length ≤ 2) ∧ ∀ H' a, Same H H' → RowEV K H' a (rowM rows k) → Q (.ref a) H'
def spIdleRow (K : PySem.W.Frag) : Sp := fun vs H Q _ => ∃ (a : Addr) (b : Gf.Bk) (n : Int) (k : Nat), vs = [.ref a, .int n, .int k] ∧ BookAt K H a b ∧ (1 ≤ b.first ∧ b.first ≤ b.roof ∧ b.roof ≤ 1000) ∧ (1 ≤ n ∧ n ≤ 300) ∧ k ≤ 8 ∧ ∀ H' t, Same H H' → RowEV K H' t (rowM (Gf.fullestM b n k).rows k) → Q (.ref t) H'
theorem rowsFrom_len : ∀ (rows : List (List Int)) (j : Nat), (∀ g ∈ rows, g.length ≤ 2) → (rowsFrom j rows).length ≤ 2 * rows.length
  | [], _, _ => Nat.le_refl _
  | g :: r, j, h => by
    have h1 := rowsFrom_len r (j + 1) fun g hg => h g (List.mem_cons_of_mem _ hg)
    have h2 := h g List.mem_cons_self
    show (g.map (Ev.gr j) ++ rowsFrom (j + 1) r).length ≤ _
    rw [List.length_append, List.length_map, List.length_cons]
    omega
section
variable {P : Program} {w : World} {K : PySem.W.Frag} {mg : Str → Option Value} {base : Heap}
theorem ok_most_idle_on (T : Txt K mg) : CalC P w K mg base 7 "most_idle_on" (spMost K) := by
  refine calC_of T.f_most_idle_on T.g_most_idle_on sc_most_idle_on (fun _ _ _ _ _ _ us hl => match us, hl with | [_, _, _], _ => rfl) (fun vs H Q E h => by obtain ⟨a, b, n, k, rfl, hb, ok, hn, hk, q⟩ := h; rfl) fun cdv A outer s H vs Q E hr h => ?_
  obtain ⟨a, b, n, k, rfl, hb, ok, hn, hk, q⟩ := h
  refine ⟨_, (pss_cons (ps_expr (pe_cc (ok_check_blocks T) hr (by decide) rfl (pa_cons (pv 1) (pa_cons (pv 2) (pa_cons pe_int pa_nil)))))
  (pss_one (ps_ret (pe_ix (r := rIxT K) ix_tup (pe_cc (ok_fullest T) hr (by decide) rfl (pa_cons (pv 0) (pa_cons (pv 1) (pa_cons (pv 2) pa_nil)))) pe_int (fun _ _ => rfl))))), ?_⟩
  refine ⟨_, rfl, _, rfl, _, _, _, rfl, ⟨by omega, by omega⟩, by omega, ?_⟩
  refine ⟨_, rfl, _, rfl, _, rfl, a, b, n, k, rfl, hb, ok, hn, hk, fun H' t s hB => ?_⟩
  obtain ⟨r, hr1, hr2⟩ := hB
  exact ⟨t, _, _, _, rfl, rfl, hr1, atI_nat (j := 0) rfl, q H' s⟩
theorem ok_row_of (T : Txt K mg) : CalC P w K mg base 1 "row_of" (spRowOf K) := by
  refine calC_of T.f_row_of T.g_row_of sc_row_of (fun _ _ _ _ _ _ us hl => match us, hl with | [_, _], _ => rfl) (fun vs H Q E h => by obtain ⟨r, rows, k, rfl, ⟨ys, hys, hyp⟩, hk, hrl, hg, q⟩ := h; rfl) fun cdv A outer s H vs Q E hr h => ?_
  obtain ⟨r, rows, k, rfl, ⟨ys, hys, hyp⟩, hk, hrl, hg, q⟩ := h
  refine ⟨_, (pss_cons (ps_setLc (i := 2) (own := [("number", 3)]) rfl sc_row_of.nd rfl rfl (sw_true rfl rfl rfl (by decide +kernel)) (pi_range1 rfl T.b_range (pa_cons (pv 1) pa_nil)) (blkOk_by (own := [("number", 3)]) (N := ["rows", "files", "row", "number", "growths", "growth"]) (sc := defScope s_row_of) (by decide +kernel)) (fun _ _ _ _ _ => (pg_name (i := 3) sc_row_of.nd rfl (Or.inl rfl))) (fun _ _ _ _ _ => pts_nil) (fun _ _ _ _ _ => (pe_tup (pa_cons pe_str (pa_cons (pe_ix (r := rIxS) ix_str (pe_gs rfl T.v_SMALL) (pv 3) (fun _ _ => rfl)) pa_nil)))))
  (pss_cons (ps_for PassesOwn.never rfl (pi_enum rfl T.b_enumerate (pa_cons (pv 0) pa_nil)) (pg_tup rfl (pgs_cons (pg_name (i := 3) sc_row_of.nd rfl (Or.inr rfl)) (pgs_cons (pg_name (i := 4) sc_row_of.nd rfl (Or.inl rfl)) pgs_nil)))
    (pss_one (ps_expr (pe_bm F.plainAttrs_list F.slot_list_extend F.type_list_extend mt_extend (pv 2) (pa_cons (pe_lc (own := [("growth", 5)]) rfl sc_row_of.nd (pi_list (pv 4)) (blkOk_by (own := [("growth", 5)]) (N := ["rows", "files", "row", "number", "growths", "growth"]) (sc := defScope s_row_of) (by decide +kernel)) (fun _ _ _ _ _ => (pg_name (i := 5) sc_row_of.nd rfl (Or.inl rfl))) (fun _ _ _ _ _ => pts_nil) (fun _ _ _ _ _ => (pe_tup (pa_cons pe_str (pa_cons (pe_ix (r := rIxS) ix_str (pe_gs rfl T.v_SMALL) (pv 3) (fun _ _ => rfl)) (pa_cons (pv 5) pa_nil)))))) pa_nil)))))
  (pss_one (ps_ret (pv 2))))), ?_⟩
  refine ⟨_, rfl, (k : Int), rfl, by omega, by omega, fun row hrow => ?_⟩
  refine lc_range (lo := 0) (n := k) (fun j H2 => ∃ G acc, Snap H [row] G H2 ∧ H2 row = some (.lst acc) ∧ Paired (EvV K G) acc ((List.range j).map Ev.mk)) ?_ ?_ ?_
  · exact ⟨H, [], Snap.of (fun z hz => by rw [List.mem_singleton.mp hz]; exact hrow) (same_upd hrow), upd_same, .nil⟩
  · rintro j H2 hj ⟨G, acc, s, ha, hp⟩
    have al := paired_len hp
    rw [List.length_map, List.length_range] at al
    have e0 : (0 : Int) + (j : Int) = (j : Int) := Int.zero_add _
    refine ⟨rfl, yes_i ⟨_, rfl, _, _, 97 + j, rfl, rfl, by decide +kernel, by rw [e0]; exact small_at (by omega), (by show 2 ≤ sizeLine; decide), fun t ht => ?_⟩⟩
    have y1 : row ≠ t := ne_of_none ha ht
    have s2 := (s.add (o := .tup (evT (.mk j))) ht (fun z hz => by rw [List.mem_singleton.mp hz]; exact y1)).put (d := row) (o := .lst (acc ++ [.ref t])) (by simp)
    refine ⟨acc, by rw [upd_ne y1]; exact ha, by rw [sizeLine_eq]; omega, _, _, s2, upd_same, ?_⟩
    rw [List.range_succ, List.map_append]
    exact paired_snoc ⟨t, rfl, SqT.of upd_same⟩ (paired_mono hp fun _ _ z => z.keep (same_ext (same_upd (s.sub.free ht))))
  · rintro H2 ⟨G, acc, s, ha, hp⟩
    have rr : row ≠ r := fun z => by rw [z, hys] at hrow; cases hrow
    refine ⟨_, rfl, r, ys, rfl, SqL.of (s.all _ _ hys), ?_⟩
    refine for_it (walk_enum (K := K) (a := r) (xs := ys)) (fun i σ H' => (∃ x3 x4 x5, σ = [some (.ref r), some (.int (k : Int)), some (.ref row), x3, x4, x5]) ∧ ∃ G acc done, Snap H [row] G H' ∧ H' row = some (.lst acc) ∧ Paired (EvV K G) acc ((List.range k).map Ev.mk ++ done) ∧ done ++ rowsFrom i (rows.drop i) = rowsFrom 0 rows) ?_ ?_ ?_ ?_
    · exact ⟨⟨_, _, _, rfl⟩, G, acc, [], s, ha, by rw [List.append_nil]; exact hp, rfl⟩
    · rintro i σ H3 _ ⟨_, G3, acc3, dn, s3, _⟩
      exact SqL.of (s3.all _ _ hys)
    · rintro i x σ H3 H4 hi ⟨⟨x3, x4, x5, rfl⟩, G3, acc3, dn, s3, ha3, hp3, hd3⟩ ⟨T2, xa, xb, rfl, hT, rfl, hxa, hxb⟩
      have exa : xa = .int (i : Int) := (Option.some.inj hxa).symm
      subst exa
      have hxb : ys[i]? = some xb := hxb
      obtain ⟨g, hgi, l, rfl, hl⟩ := paired_at hyp hxb
      have gm := hg g (List.mem_of_getElem? hgi)
      have yl := paired_len hyp
      have y1 : row ≠ T2 := ne_of_none ha3 hT
      have s4 := s3.skip (o := .tup [.int (i : Int), .ref l]) hT
      have ha4 : upd H3 T2 (.tup [.int (i : Int), .ref l]) row = some (.lst acc3) := by rw [upd_ne y1]; exact ha3
      have hT5 : SqT K (upd H3 T2 (.tup [.int (i : Int), .ref l])) T2 [.int (i : Int), .ref l] := SqT.of upd_same
      generalize upd H3 T2 (.tup [.int (i : Int), .ref l]) = H5 at s4 ha4 hT5
      have dr : rows.drop i = g :: rows.drop (i + 1) := by
        obtain ⟨hlt, e⟩ := List.getElem?_eq_some_iff.mp hgi
        rw [List.drop_eq_getElem_cons hlt, e]
      refine ⟨T2, _, rfl, hT5, rfl, _, _, rfl, _, _, rfl, rfl, ?_⟩
      refine ⟨_, rfl, .inl ⟨rfl, acc3, SqL.of ha4⟩, ?_⟩
      have hl4 := sqL_keep (same_ext s4.all) hl
      refine ⟨_, rfl, l, rfl, ⟨_, hl4⟩, fun D hD => ?_⟩
      have rD : row ≠ D := ne_of_none ha4 hD
      refine lc_list (K := K) (a := l) (xs := g.map V.int) (fun j H6 => ∃ G6 ac, Snap H [D, row] G6 H6 ∧ Same G3 G6 ∧ H6 D = some (.lst ac) ∧ H6 row = some (.lst acc3) ∧ Paired (EvV K G6) ac ((g.take j).map (Ev.gr i))) ?_ ?_ ?_ ?_
      · refine ⟨G3, [], (s4.more (s4.sub.free hD)).to (same_upd hD), Same.refl _, upd_same, by rw [upd_ne rD]; exact ha4, .nil⟩
      · rintro j H6 _ ⟨G6, ac, s6, _⟩
        exact sqL_keep (same_ext s6.all) hl
      · rintro j x H6 hx ⟨G6, ac, s6, sg, h1, h2, h3⟩
        have acl := paired_len h3
        rw [List.length_map, List.length_take] at acl
        obtain ⟨m, hm, rfl⟩ : ∃ m, g[j]? = some m ∧ x = .int m := by
          rw [List.getElem?_map] at hx
          cases hgj : g[j]? with
          | none => rw [hgj] at hx; cases hx
          | some m => rw [hgj] at hx; exact ⟨m, rfl, (Option.some.inj hx).symm⟩
        refine ⟨rfl, yes_i ⟨_, rfl, _, _, 97 + i, rfl, rfl, by decide +kernel, small_at (by omega), _, rfl, (by show 3 ≤ sizeLine; decide), fun t ht => ?_⟩⟩
        have z1 : D ≠ t := ne_of_none h1 ht
        have z2 : row ≠ t := ne_of_none h2 ht
        have s7 := (s6.add (o := .tup (evT (.gr i m))) ht (by intro z hz; simp only [List.mem_cons, List.mem_nil_iff, or_false] at hz; rcases hz with e | e <;> rw [e] <;> assumption)).put (d := D) (o := .lst (ac ++ [.ref t])) (by simp)
        refine ⟨ac, by rw [upd_ne z1]; exact h1, by rw [sizeLine_eq]; omega, _, _, s7, sg.trans (same_upd (s6.sub.free ht)), upd_same, by rw [upd_ne rD, upd_ne z2]; exact h2, ?_⟩
        rw [take_snoc hm, List.map_append]
        exact paired_snoc ⟨t, rfl, SqT.of upd_same⟩ (paired_mono h3 fun _ _ z => z.keep (same_ext (same_upd (s6.sub.free ht))))
      · rintro H6 ⟨G6, ac, s6, sg, h1, h2, h3⟩
        rw [List.length_map, List.take_length] at h3
        have acl := paired_len h3
        rw [List.length_map] at acl
        have a3 := paired_len hp3
        have dl : dn.length ≤ 16 := by
          have e1 := congrArg List.length hd3
          rw [List.length_append] at e1
          have := rowsFrom_len rows 0 hg
          omega
        rw [List.length_append, List.length_map, List.length_range] at a3
        refine ⟨row, D, acc3, ac, rfl, rfl, h2, h1, by rw [sizeLine_eq]; omega, ?_⟩
        have s7 := (s6.fin h1 (fun z hz => by rw [List.mem_singleton.mp hz]; exact rD)).put (d := row) (o := .lst (acc3 ++ ac)) (by simp)
        have gD := s6.no D (by simp)
        refine ⟨⟨_, _, _, rfl⟩, _, _, dn ++ g.map (Ev.gr i), s7, upd_same, ?_, ?_⟩
        · rw [← List.append_assoc]
          exact paired_app (paired_mono hp3 fun _ _ z => z.keep (same_ext (sg.trans (same_upd gD)))) (paired_mono h3 fun _ _ z => z.keep (same_ext (same_upd gD)))
        · rw [← hd3, dr, List.append_assoc] <;> rfl
    · rintro σ H3 ⟨⟨x3, x4, x5, rfl⟩, G3, acc3, dn, s3, ha3, hp3, hd3⟩
      refine ⟨_, rfl, q H3 row s3.all ⟨acc3, ha3, ?_⟩⟩
      have yl := paired_len hyp
      have e : dn = rowsFrom 0 rows := by
        rw [← hd3, yl, List.drop_length]
        exact (List.append_nil _).symm
      rw [e] at hp3
      exact paired_mono hp3 fun _ _ z => z.keep s3.keep
theorem ok_idle_row_on (T : Txt K mg) : CalC P w K mg base 7 "idle_row_on" (spIdleRow K) := by
  refine calC_of T.f_idle_row_on T.g_idle_row_on sc_idle_row_on (fun _ _ _ _ _ _ us hl => match us, hl with | [_, _, _], _ => rfl) (fun vs H Q E h => by obtain ⟨a, b, n, k, rfl, hb, ok, hn, hk, q⟩ := h; rfl) fun cdv A outer s H vs Q E hr h => ?_
  obtain ⟨a, b, n, k, rfl, hb, ok, hn, hk, q⟩ := h
  refine ⟨_, (pss_cons (ps_expr (pe_cc (ok_check_blocks T) hr (by decide) rfl (pa_cons (pv 1) (pa_cons (pv 2) (pa_cons pe_int pa_nil)))))
  (pss_one (ps_ret (pe_cc (ok_row_of T) hr (by decide) rfl (pa_cons (pe_ix (r := rIxT K) ix_tup (pe_cc (ok_fullest T) hr (by decide) rfl (pa_cons (pv 0) (pa_cons (pv 1) (pa_cons (pv 2) pa_nil)))) pe_int (fun _ _ => rfl)) (pa_cons (pv 2) pa_nil)))))), ?_⟩
  refine ⟨_, rfl, _, rfl, _, _, _, rfl, ⟨by omega, by omega⟩, by omega, ?_⟩
  refine ⟨_, rfl, _, rfl, _, rfl, a, b, n, k, rfl, hb, ok, hn, hk, fun H' t s hB => ?_⟩
  obtain ⟨r, hr1, hr2⟩ := hB
  have fb := Gf.full_bounds (bk_ok hb ok) hn.1 k
  exact ⟨t, _, _, _, rfl, rfl, hr1, atI_nat (j := 2) rfl, _, rfl, r, _, k, rfl, hr2, hk, by omega, fun g hg => (fb.2 g hg).1, fun H'' a' s' h' => q H'' a' (s.trans s') h'⟩
end
end Gt
/-! ## GfK8 -/
set_option Elab.async false
set_option linter.all false
set_option maxRecDepth 100000
set_option maxHeartbeats 4000000
namespace Gt
open PySem PySem.Spec PyProof.Rows L2 Wm
/-! ### runs and pairs -/
def PrV (K : PySem.W.Frag) (G : Hp) (v : V) (p : Int × Option Int) : Prop := ∃ t, v = .ref t ∧ SqT K G t [.int p.1, optI p.2]
theorem PrV.keep {K : PySem.W.Frag} {G G' : Hp} {v : V} {p : Int × Option Int} (e : LamX.ExtN G G') (h : PrV K G v p) : PrV K G' v p := by
  obtain ⟨t, h1, h2⟩ := h
  exact ⟨t, h1, sqT_keep e h2⟩
/-- a list of pairs (or of runs) -/
def PairsL (K : PySem.W.Frag) (G : Hp) (a : Addr) (P : List (Int × Option Int)) : Prop := ∃ xs, G a = some (.lst xs) ∧ Paired (PrV K G) xs P
theorem PairsL.keep {K : PySem.W.Frag} {G G' : Hp} {a : Addr} {P : List (Int × Option Int)} (e : LamX.ExtN G G') (h : PairsL K G a P) : PairsL K G' a P := by
  obtain ⟨xs, h1, h2⟩ := h
  exact ⟨xs, keep_lst e h1, paired_mono h2 fun _ _ z => z.keep e⟩
def so (p : Int × Int) : Int × Option Int := (p.1, some p.2)
theorem optI_some {i : Int} : optI (some i) = .int i := rfl
theorem gap_pos {st : List (Int × Int) × Int} {p : Int × Int} (c : st.2 < p.1) : Gf.gapStep st p = (st.1 ++ [(st.2, p.1)], p.2) := by
  unfold Gf.gapStep
  rw [if_pos c]
theorem gap_neg {st : List (Int × Int) × Int} {p : Int × Int} (c : ¬ st.2 < p.1) : Gf.gapStep st p = (st.1, p.2) := by
  unfold Gf.gapStep
  rw [if_neg c]
def spEnd (K : PySem.W.Frag) : Sp := fun vs H Q _ => ∃ (t : Addr) (s : Int) (l : Option Int), vs = [.ref t] ∧ SqT K H t [.int s, optI l] ∧ Q (optI (l.map (s + ·))) H
def spBef : Sp := fun vs H Q _ => ∃ a b : Option Int, vs = [optI a, optI b] ∧ Q (.bl (Gf.bef a b)) H
def spIsRun (K : PySem.W.Frag) : Sp := fun vs H Q _ => ∃ (t : Addr) (s l : Int), vs = [.ref t] ∧ SqT K H t [.int s, .int l] ∧ (0 ≤ s ∧ s ≤ 1000000) ∧ (1 ≤ l ∧ l ≤ 1000000) ∧ Q (.bl true) H
def spOthers (K : PySem.W.Frag) : Sp := fun vs H Q _ => ∃ (a : Addr) (P : List (Int × Int)), vs = [.ref a] ∧ PairsL K H a (P.map so) ∧ P.length ≤ 1000 ∧ ∀ H' d, Same H H' → PairsL K H' d (Gf.othersM P) → Q (.ref d) H'
def spShared (K : PySem.W.Frag) : Sp := fun vs H Q _ => ∃ (a b : Addr) (A B : List (Int × Option Int)), vs = [.ref a, .ref b] ∧ PairsL K H a A ∧ PairsL K H b B ∧ A.length ≤ 1001 ∧ B.length ≤ 1001 ∧ ∀ H' d, Same H H' → PairsL K H' d (Gf.sharedM A B) → Q (.ref d) H'
/-! ### rooms -/
def RoomAt (K : PySem.W.Frag) (H : Hp) (a : Addr) (P : List (Int × Option Int)) : Prop := ∃ dx d, H a = some (.ins 838 dx [("pairs", .ref d)]) ∧ PairsL K H d P
theorem RoomAt.keep {K : PySem.W.Frag} {G G' : Hp} {a : Addr} {P : List (Int × Option Int)} (e : LamX.ExtN G G') (h : RoomAt K G a P) : RoomAt K G' a P := by
  obtain ⟨dx, d, h1, h2⟩ := h
  exact ⟨dx, d, keep_ins e h1, h2.keep e⟩
def spPairsI : Sp := fun vs H Q _ => ∃ (x dx d : Addr), vs = [.ref x, .ref d] ∧ H x = some (.ins 725 dx []) ∧ Q .non (upd H x (.ins 725 dx [("pairs", .ref d)]))
def spPairsOf (K : PySem.W.Frag) : Sp := fun vs H Q _ => ∃ (a dx d : Addr), vs = [.ref a] ∧ H a = some (.ins 838 dx [("pairs", .ref d)]) ∧ Q (.ref d) H
def spAmount (K : PySem.W.Frag) : Sp := fun vs H Q _ => ∃ (a : Addr) (F : List (Int × Int)), vs = [.ref a] ∧ RoomAt K H a (F.map so) ∧ Q (.int (Gf.sumP F)) H
def spBool (K : PySem.W.Frag) : Sp := fun vs H Q _ => ∃ (a : Addr) (P : List (Int × Option Int)), vs = [.ref a] ∧ RoomAt K H a P ∧ Q (.bl (decide (0 < P.length))) H
theorem others_len {P : List (Int × Int)} : (Gf.othersM P).length ≤ P.length + 1 := by
  have key : (Gf.gapTo P).1.length ≤ P.length := by
    refine Gf.snoc_ind (p := fun P => (Gf.gapTo P).1.length ≤ P.length) (Nat.le_refl _) (fun P p ih => ?_) P
    rw [Gf.gapTo_snoc, List.length_append, List.length_singleton]
    by_cases c : (Gf.gapTo P).2 < p.1
    · rw [gap_pos c]
      show ((Gf.gapTo P).1 ++ [((Gf.gapTo P).2, p.1)]).length ≤ _
      rw [List.length_append, List.length_singleton]
      omega
    · rw [gap_neg c]
      show (Gf.gapTo P).1.length ≤ _
      omega
  unfold Gf.othersM
  rw [List.length_append, List.length_map, List.length_singleton]
  omega
theorem lst_at {α : Type} {L : List α} {i : Nat} (h : i < L.length) : L[i]? = some (L[i]'h) := List.getElem?_eq_getElem h
section
variable {P : Program} {w : World} {K : PySem.W.Frag} {mg : Str → Option Value} {base : Heap}
theorem ok_end_of (T : Txt K mg) : CalW P w K mg base 1 "end_of" (spEnd K) := by
  refine calW_of T.f_end_of T.g_end_of sc_end_of (fun _ _ _ _ _ _ us hl => match us, hl with | [_], _ => rfl) (fun vs H Q E h => by obtain ⟨t, st, l, rfl, ht, q⟩ := h; rfl) fun cdv A outer s H vs Q E c pn hw hr h => ?_
  obtain ⟨t, st, l, rfl, ht, q⟩ := h
  refine ⟨_, (pss_cons (ps_asg (pv 0) (pg_tupW hw (pgs_cons (pg_name (i := 1) sc_end_of.nd rfl (Or.inl rfl)) (pgs_cons (pg_name (i := 2) sc_end_of.nd rfl (Or.inl rfl)) pgs_nil))))
  (pss_one (ps_ret (pe_ifExp (pt_cmp (pc_isN (pv 2))) pe_non (pe_op op_add (pv 1) (pv 2)))))), ?_⟩
  refine ⟨_, rfl, t, _, rfl, ht, rfl, _, _, rfl, _, _, rfl, rfl, ?_⟩
  refine ⟨_, rfl, _, rfl, ?_⟩
  cases l with
  | none => exact ifT rfl q
  | some l => exact ifF (fun z => by cases z) ⟨_, rfl, _, rfl, _, _, rfl, rfl, q⟩
theorem ok_is_before (T : Txt K mg) : CalW P w K mg base 1 "is_before" spBef := by
  refine calW_of T.f_is_before T.g_is_before sc_is_before (fun _ _ _ _ _ _ us hl => match us, hl with | [_, _], _ => rfl) (fun vs H Q E h => by obtain ⟨a, b, rfl, q⟩ := h; rfl) fun cdv A outer s H vs Q E c pn hw hr h => ?_
  obtain ⟨a, b, rfl, q⟩ := h
  refine ⟨_, (pss_one (ps_ret (pe_and (pe_cmp (pc_notN (pv 0))) (pe_one (pe_or (pe_cmp (pc_isN (pv 1))) (pe_one (pe_cmpR op_lt (pv 0) (pv 1) (nomark _)))))))), ?_⟩
  refine ⟨_, rfl, _, rfl, ?_⟩
  cases a with
  | none => exact ifNN rfl q
  | some a =>
    refine ifN (fun z => by cases z) ⟨_, rfl, _, rfl, ?_⟩
    cases b with
    | none => exact ifT rfl q
    | some b => exact ifF (fun z => by cases z) ⟨_, rfl, _, rfl, _, _, rfl, rfl, q⟩
theorem ok_is_run (T : Txt K mg) : CalW P w K mg base 2 "is_run" (spIsRun K) := by
  refine calW_of T.f_is_run T.g_is_run sc_is_run (fun _ _ _ _ _ _ us hl => match us, hl with | [_], _ => rfl) (fun vs H Q E h => by obtain ⟨t, st, l, rfl, ht, hs, hl, q⟩ := h; rfl) fun cdv A outer s H vs Q E c pn hw hr h => ?_
  obtain ⟨t, st, l, rfl, ht, hs, hl, q⟩ := h
  refine ⟨_, (pss_cons (ps_if (PW.pt (pw_or (pt_not (pt_val (pe_callB call_isB rfl T.b_isinstance (by decide +kernel) (pa_cons (pv 0) (pa_cons (pe_bltn (v := .ty "tuple") rfl T.b_tuple (by decide +kernel) rfl) pa_nil))))) (pw_or (pt_cmpR op_ne (pe_callB call_len_seq rfl T.b_len (by decide +kernel) (pa_cons (pv 0) pa_nil)) pe_int (nomark _)) (pw_or1 (pt_not (pt_val (pe_cw (ok_is_integer T) hr (by decide) hw rfl (pa_cons (pe_ix (r := rIxT K) ix_tup (pv 0) pe_int (fun _ _ => rfl)) (pa_cons pe_int (pa_cons (pe_gi rfl T.v_MOST_BLOCK) pa_nil))))))))))
    (pss_one (ps_ret pe_bl))
    pss_nil)
  (pss_one (ps_ret (pe_or (pe_cmp (pc_isN (pe_ix (r := rIxT K) ix_tup (pv 0) pe_int (fun _ _ => rfl)))) (pe_one (pe_cw (ok_is_integer T) hr (by decide) hw rfl (pa_cons (pe_ix (r := rIxT K) ix_tup (pv 0) pe_int (fun _ _ => rfl)) (pa_cons pe_int (pa_cons (pe_op op_sub (pe_gi rfl T.v_MOST_BLOCK) (pe_ix (r := rIxT K) ix_tup (pv 0) pe_int (fun _ _ => rfl))) pa_nil))))))))), ?_⟩
  refine ⟨_, rfl, _, _, true, rfl, isi_tup ht, true, rfl, iteF ?_⟩
  refine ⟨_, rfl, _, _, rfl, .inr ht, rfl, _, rfl, iteF ?_⟩
  refine ⟨_, rfl, _, _, _, _, rfl, rfl, ht, atI_nat (j := 0) rfl, _, _, _, rfl, hs.1, by omega, true, rfl, iteF ?_⟩
  refine ⟨_, rfl, _, _, _, _, rfl, rfl, ht, atI_nat (j := 1) rfl, _, rfl, ifF (fun z => by cases z) ?_⟩
  exact ⟨_, rfl, _, _, _, _, rfl, rfl, ht, atI_nat (j := 1) rfl, _, rfl, _, _, _, _, rfl, rfl, ht, atI_nat (j := 0) rfl, _, _, rfl, rfl, _, _, _, rfl, hl.1, by omega, q⟩
theorem ok_others (T : Txt K mg) : CalW P w K mg base 1 "others" (spOthers K) := by
  refine calW_of T.f_others T.g_others sc_others (fun _ _ _ _ _ _ us hl => match us, hl with | [_], _ => rfl) (fun vs H Q E h => by obtain ⟨a, P, rfl, ⟨xs, hxs, hp⟩, hP, q⟩ := h; rfl) fun cdv A outer s H vs Q E c pn hw hr h => ?_
  obtain ⟨a, P, rfl, ⟨xs, hxs, hp⟩, hP, q⟩ := h
  refine ⟨_, (pss_cons (ps_set (i := 1) sc_others.nd rfl (Or.inl rfl) (pe_lst pa_nil))
  (pss_cons (ps_set (i := 2) sc_others.nd rfl (Or.inl rfl) pe_int)
  (pss_cons (ps_forW PassesOwn.never hw (pi_listW (pv 0)) (pg_tupW hw (pgs_cons (pg_name (i := 3) sc_others.nd rfl (Or.inl rfl)) (pgs_cons (pg_name (i := 4) sc_others.nd rfl (Or.inl rfl)) pgs_nil)))
    (pss_cons (ps_if (PW.pt (pw_and (pt_cmp (pc_notN (pv 2))) (pw_and1 (pt_cmpR op_lt (pv 2) (pv 3) (nomark _)))))
      (pss_one (ps_expr (pe_bm F.plainAttrs_list F.slot_list_append F.type_list_append mt_append (pv 1) (pa_cons (pe_tup (pa_cons (pv 2) (pa_cons (pv 3) pa_nil))) pa_nil))))
      pss_nil)
    (pss_one (ps_set (i := 2) sc_others.nd rfl (Or.inl rfl) (pv 4)))))
  (pss_cons (ps_if (pt_cmp (pc_notN (pv 2)))
    (pss_one (ps_expr (pe_bm F.plainAttrs_list F.slot_list_append F.type_list_append mt_append (pv 1) (pa_cons (pe_tup (pa_cons (pv 2) (pa_cons pe_non pa_nil))) pa_nil))))
    pss_nil)
  (pss_one (ps_ret (pv 1))))))), ?_⟩
  refine ⟨(by show 0 ≤ sizeLine; decide), fun fd hfd => ?_⟩
  have xl := paired_len hp
  rw [List.length_map] at xl
  have e0 : Same H (upd H fd (.lst [])) := same_upd hfd
  have fa : fd ≠ a := fun z => by rw [z, hxs] at hfd; cases hfd
  refine ⟨_, rfl, a, rfl, ⟨_, SqL.of (e0 _ _ hxs)⟩, ?_⟩
  refine for_list (K := K) (a := a) (xs := xs) (fun i σ H' => (∃ x3 x4, σ = [some (.ref a), some (.ref fd), some (.int (Gf.gapTo (P.take i)).2), x3, x4]) ∧ ∃ G acc, Snap H [fd] G H' ∧ H' fd = some (.lst acc) ∧ Paired (PrV K G) acc ((Gf.gapTo (P.take i)).1.map so) ∧ (Gf.gapTo (P.take i)).1.length ≤ i) ?_ ?_ ?_ ?_
  · exact ⟨⟨_, _, rfl⟩, H, [], Snap.of (fun z hz => by rw [List.mem_singleton.mp hz]; exact hfd) e0, upd_same, .nil, Nat.le_refl _⟩
  · rintro i σ H1 _ ⟨_, G, acc, s, _⟩
    exact SqL.of (s.all _ _ hxs)
  · rintro i x σ H1 hx ⟨⟨x3, x4, rfl⟩, G, acc, s, ha, hpa, hl⟩
    obtain ⟨p0, hp0, t, rfl, ht⟩ := paired_at hp hx
    obtain ⟨p, hpi, rfl⟩ : ∃ p, P[i]? = some p ∧ p0 = so p := by
      rw [List.getElem?_map] at hp0
      cases hq : P[i]? with
      | none => rw [hq] at hp0; cases hp0
      | some p => rw [hq] at hp0; exact ⟨p, rfl, (Option.some.inj hp0).symm⟩
    have hil : i < P.length := (List.getElem?_eq_some_iff.mp hpi).1
    have al := paired_len hpa
    rw [List.length_map] at al
    have st : Gf.gapTo (P.take (i + 1)) = Gf.gapStep (Gf.gapTo (P.take i)) p := by rw [take_snoc hpi, Gf.gapTo_snoc]
    refine ⟨t, _, rfl, sqT_keep (same_ext s.all) ht, rfl, _, _, rfl, _, _, rfl, rfl, ?_⟩
    refine ⟨_, rfl, _, rfl, ifN (fun z => by cases z) ⟨_, rfl, _, rfl, _, _, rfl, rfl, _, rfl, ?_⟩⟩
    refine if2 (fun c => ?_) (fun c => ?_)
    · refine ⟨_, rfl, .inl ⟨rfl, acc, SqL.of ha⟩, _, rfl, _, rfl, (by show 2 ≤ sizeLine; decide), fun t2 ht2 => ?_⟩
      have y1 : fd ≠ t2 := ne_of_none ha ht2
      have s2 := (s.add (o := .tup [.int (Gf.gapTo (P.take i)).2, .int p.1]) ht2 (fun z hz => by rw [List.mem_singleton.mp hz]; exact y1)).put (d := fd) (o := .lst (acc ++ [.ref t2])) (by simp)
      refine ⟨fd, acc, _, rfl, rfl, by rw [upd_ne y1]; exact ha, by rw [sizeLine_eq]; omega, _, rfl, ?_⟩
      dsimp only
      rw [st, gap_pos c]
      refine ⟨⟨_, _, rfl⟩, _, _, s2, upd_same, ?_, by show (_ ++ [_]).length ≤ _; rw [List.length_append, List.length_singleton]; omega⟩
      rw [List.map_append]
      exact paired_snoc ⟨t2, rfl, SqT.of upd_same⟩ (paired_mono hpa fun _ _ z => z.keep (same_ext (same_upd (s.sub.free ht2))))
    · refine ⟨_, rfl, ?_⟩
      dsimp only
      rw [st, gap_neg c]
      exact ⟨⟨_, _, rfl⟩, _, _, s, ha, hpa, by show (Gf.gapTo (P.take i)).1.length ≤ _; omega⟩
  · rintro σ H1 ⟨⟨x3, x4, rfl⟩, G, acc, s, ha, hpa, hl⟩
    have eP : P.take xs.length = P := by rw [xl, List.take_length]
    rw [eP] at hpa hl ⊢
    have al := paired_len hpa
    rw [List.length_map] at al
    refine ⟨_, rfl, _, rfl, ifN (fun z => by cases z) ?_⟩
    refine ⟨_, rfl, .inl ⟨rfl, acc, SqL.of ha⟩, _, rfl, (by show 2 ≤ sizeLine; decide), fun t2 ht2 => ?_⟩
    have y1 : fd ≠ t2 := ne_of_none ha ht2
    have s2 := (s.add (o := .tup [.int (Gf.gapTo P).2, .non]) ht2 (fun z hz => by rw [List.mem_singleton.mp hz]; exact y1)).put (d := fd) (o := .lst (acc ++ [.ref t2])) (by simp)
    refine ⟨fd, acc, _, rfl, rfl, by rw [upd_ne y1]; exact ha, by rw [sizeLine_eq]; omega, _, rfl, q _ fd s2.all ⟨_, upd_same, ?_⟩⟩
    unfold Gf.othersM
    refine paired_mono (paired_snoc (R := PrV K _) (show PrV K _ (.ref t2) ((Gf.gapTo P).2, none) from ⟨t2, rfl, SqT.of upd_same⟩) (paired_mono hpa fun _ _ z => z.keep (same_ext (same_upd (s.sub.free ht2))))) fun _ _ z => z.keep s2.keep
theorem ok_shared (T : Txt K mg) : CalW P w K mg base 2 "shared" (spShared K) := by
  refine calW_of T.f_shared T.g_shared sc_shared (fun _ _ _ _ _ _ us hl => match us, hl with | [_, _], _ => rfl) (fun vs H Q E h => by obtain ⟨a, b, A1, B, rfl, ⟨xs, hxs, hp⟩, ⟨ys, hys, hq⟩, hA, hB, q⟩ := h; rfl) fun cdv A outer s H vs Q E c pn hw hr h => ?_
  obtain ⟨a, b, A1, B, rfl, ⟨xs, hxs, hp⟩, ⟨ys, hys, hq⟩, hA, hB, q⟩ := h
  refine ⟨_, (pss_cons (ps_set (i := 2) sc_shared.nd rfl (Or.inl rfl) (pe_lst pa_nil))
  (pss_cons (ps_forW PassesOwn.never hw (pi_listW (pv 0)) (pg_tupW hw (pgs_cons (pg_name (i := 3) sc_shared.nd rfl (Or.inl rfl)) (pgs_cons (pg_name (i := 4) sc_shared.nd rfl (Or.inl rfl)) pgs_nil)))
    (pss_one (ps_forW PassesOwn.never hw (pi_listW (pv 1)) (pg_tupW hw (pgs_cons (pg_name (i := 5) sc_shared.nd rfl (Or.inl rfl)) (pgs_cons (pg_name (i := 6) sc_shared.nd rfl (Or.inl rfl)) pgs_nil)))
      (C8.pss_cut (ps_set (i := 7) sc_shared.nd rfl (Or.inl rfl) (pe_ifExp (pt_cmpR op_lt (pv 3) (pv 5) (nomark _)) (pv 5) (pv 3)))
      (pss_one (ps_if (PW.pt (pw_and (pt_val (pe_cw (ok_is_before T) hr (by decide) hw rfl (pa_cons (pv 7) (pa_cons (pv 4) pa_nil)))) (pw_and1 (pt_val (pe_cw (ok_is_before T) hr (by decide) hw rfl (pa_cons (pv 7) (pa_cons (pv 6) pa_nil)))))))
        (pss_one (ps_expr (pe_bm F.plainAttrs_list F.slot_list_append F.type_list_append mt_append (pv 2) (pa_cons (pe_tup (pa_cons (pv 7) (pa_cons (pe_ifExp (pt_val (pe_cw (ok_is_before T) hr (by decide) hw rfl (pa_cons (pv 4) (pa_cons (pv 6) pa_nil)))) (pv 4) (pv 6)) pa_nil))) pa_nil))))
        pss_nil))))))
  (pss_one (ps_ret (pv 2))))), ?_⟩
  refine ⟨(by show 0 ≤ sizeLine; decide), fun fd hfd => ?_⟩
  have e0 : Same H (upd H fd (.lst [])) := same_upd hfd
  refine ⟨_, rfl, a, rfl, ⟨_, SqL.of (e0 _ _ hxs)⟩, ?_⟩
  refine for_list (K := K) (a := a) (xs := xs) (fun i σ H' => (∃ x3 x4 x5 x6 x7, σ = [some (.ref a), some (.ref b), some (.ref fd), x3, x4, x5, x6, x7]) ∧ ∃ G acc, Snap H [fd] G H' ∧ H' fd = some (.lst acc) ∧ Paired (PrV K G) acc (Gf.sharedM (A1.take i) B) ∧ acc.length ≤ 1001 * i) ?_ ?_ ?_ ?_
  · exact ⟨⟨_, _, _, _, _, rfl⟩, H, [], Snap.of (fun z hz => by rw [List.mem_singleton.mp hz]; exact hfd) e0, upd_same, .nil, Nat.zero_le _⟩
  · rintro i σ H1 _ ⟨_, G, acc, s, _⟩
    exact SqL.of (s.all _ _ hxs)
  · rintro i x σ H1 hx ⟨⟨x3, x4, x5, x6, x7, rfl⟩, G, acc, s, ha, hpa, hl⟩
    obtain ⟨p, hpi, t, rfl, ht⟩ := paired_at hp hx
    have hil : i < A1.length := (List.getElem?_eq_some_iff.mp hpi).1
    refine ⟨t, _, rfl, sqT_keep (same_ext s.all) ht, rfl, _, _, rfl, _, _, rfl, rfl, ?_⟩
    refine ⟨_, rfl, b, rfl, ⟨_, SqL.of (s.all _ _ hys)⟩, ?_⟩
    refine for_list (K := K) (a := b) (xs := ys) (fun j σ H' => (∃ x5 x6 x7, σ = [some (.ref a), some (.ref b), some (.ref fd), some (.int p.1), some (optI p.2), x5, x6, x7]) ∧ ∃ G acc, Snap H [fd] G H' ∧ H' fd = some (.lst acc) ∧ Paired (PrV K G) acc (Gf.sharedM (A1.take i) B ++ (B.take j).filterMap (Gf.clipM p)) ∧ acc.length ≤ 1001 * i + j) ?_ ?_ ?_ ?_
    · exact ⟨⟨_, _, _, rfl⟩, G, acc, s, ha, by rw [List.take_zero, List.filterMap_nil, List.append_nil]; exact hpa, by omega⟩
    · rintro j σ H2 _ ⟨_, G2, acc2, s2, _⟩
      exact SqL.of (s2.all _ _ hys)
    · rintro j y σ H2 hy ⟨⟨x5', x6', x7', rfl⟩, G2, acc2, s2, ha2, hp2, hl2⟩
      obtain ⟨u, huj, t2, rfl, ht2⟩ := paired_at hq hy
      have hjl : j < B.length := (List.getElem?_eq_some_iff.mp huj).1
      have st : (B.take (j + 1)).filterMap (Gf.clipM p) = (B.take j).filterMap (Gf.clipM p) ++ (match Gf.clipM p u with | some z => [z] | none => []) := by
        rw [take_snoc huj, List.filterMap_append]
        congr 1
        rw [List.filterMap_cons]
        cases Gf.clipM p u <;> rfl
      refine ⟨t2, _, rfl, sqT_keep (same_ext s2.all) ht2, rfl, _, _, rfl, _, _, rfl, rfl, ?_⟩
      have none_ : (Gf.bef (some (if p.1 < u.1 then u.1 else p.1)) p.2 && Gf.bef (some (if p.1 < u.1 then u.1 else p.1)) u.2) = false → ∃ G acc, Snap H [fd] G H2 ∧ H2 fd = some (.lst acc) ∧ Paired (PrV K G) acc (Gf.sharedM (A1.take i) B ++ (B.take (j + 1)).filterMap (Gf.clipM p)) ∧ acc.length ≤ 1001 * i + (j + 1) := fun hb => by
        have e : Gf.clipM p u = none := by
          unfold Gf.clipM
          simp only [hb, Bool.false_eq_true, if_false]
        refine ⟨G2, acc2, s2, ha2, ?_, by omega⟩
        rw [st, e, List.append_nil]
        exact hp2
      have some_ : (Gf.bef (some (if p.1 < u.1 then u.1 else p.1)) p.2 && Gf.bef (some (if p.1 < u.1 then u.1 else p.1)) u.2) = true → ∀ e : Option Int, e = (if Gf.bef p.2 u.2 then p.2 else u.2) → ∀ t3, H2 t3 = none → ∃ H3, H3 = upd (upd H2 t3 (.tup [.int (if p.1 < u.1 then u.1 else p.1), optI e])) fd (.lst (acc2 ++ [.ref t3])) ∧ (upd H2 t3 (.tup [.int (if p.1 < u.1 then u.1 else p.1), optI e])) fd = some (.lst acc2) ∧ ∃ G acc, Snap H [fd] G H3 ∧ H3 fd = some (.lst acc) ∧ Paired (PrV K G) acc (Gf.sharedM (A1.take i) B ++ (B.take (j + 1)).filterMap (Gf.clipM p)) ∧ acc.length ≤ 1001 * i + (j + 1) := fun hb e he t3 ht3 => by
        have e1 : Gf.clipM p u = some (if p.1 < u.1 then u.1 else p.1, e) := by
          unfold Gf.clipM
          simp only [hb, if_true, he]
        have y1 : fd ≠ t3 := ne_of_none ha2 ht3
        have s3 := (s2.add (o := .tup [.int (if p.1 < u.1 then u.1 else p.1), optI e]) ht3 (fun z hz => by rw [List.mem_singleton.mp hz]; exact y1)).put (d := fd) (o := .lst (acc2 ++ [.ref t3])) (by simp)
        refine ⟨_, rfl, by rw [upd_ne y1]; exact ha2, _, _, s3, upd_same, ?_, by rw [List.length_append, List.length_singleton]; omega⟩
        rw [st, e1, ← List.append_assoc]
        exact paired_snoc ⟨t3, rfl, SqT.of upd_same⟩ (paired_mono hp2 fun _ _ z => z.keep (same_ext (same_upd (s2.sub.free ht3))))
      refine ⟨fun σ' H' => σ' = [some (.ref a), some (.ref b), some (.ref fd), some (.int p.1), some (optI p.2), some (.int u.1), some (optI u.2), some (.int (if p.1 < u.1 then u.1 else p.1))] ∧ H' = H2, ?_, ?_⟩
      · refine ⟨_, rfl, _, rfl, _, _, rfl, rfl, _, rfl, ?_⟩
        refine if2 (fun c => ⟨_, rfl, ?_, rfl⟩) (fun c => ⟨_, rfl, ?_, rfl⟩)
        · rw [if_pos c] <;> rfl
        · rw [if_neg c] <;> rfl
      · rintro σ' H' ⟨rfl, rfl⟩
        refine ⟨_, rfl, _, rfl, some (if p.1 < u.1 then u.1 else p.1), p.2, rfl, _, rfl, ?_⟩
        cases hb1 : Gf.bef (some (if p.1 < u.1 then u.1 else p.1)) p.2 with
        | false =>
          refine iteF (iteF ⟨⟨_, _, _, rfl⟩, none_ (by rw [hb1] <;> rfl)⟩)
        | true =>
          refine iteT ⟨_, rfl, _, rfl, some (if p.1 < u.1 then u.1 else p.1), u.2, rfl, _, rfl, ?_⟩
          cases hb2 : Gf.bef (some (if p.1 < u.1 then u.1 else p.1)) u.2 with
          | false =>
            refine iteF ⟨⟨_, _, _, rfl⟩, none_ (by rw [hb1, hb2] <;> rfl)⟩
          | true =>
            have hb : (Gf.bef (some (if p.1 < u.1 then u.1 else p.1)) p.2 && Gf.bef (some (if p.1 < u.1 then u.1 else p.1)) u.2) = true := by rw [hb1, hb2] <;> rfl
            refine iteT ⟨_, rfl, .inl ⟨rfl, acc2, SqL.of ha2⟩, _, rfl, _, rfl, _, rfl, p.2, u.2, rfl, _, rfl, ?_⟩
            cases hb3 : Gf.bef p.2 u.2 with
            | false =>
              refine iteF ⟨_, rfl, (by show 2 ≤ sizeLine; decide), fun t3 ht3 => ?_⟩
              obtain ⟨H3, e3, h1, h2⟩ := some_ hb u.2 (by rw [hb3] <;> rfl) t3 ht3
              refine ⟨fd, acc2, _, rfl, rfl, h1, by rw [sizeLine_eq]; omega, ⟨_, _, _, rfl⟩, ?_⟩
              rw [← e3]
              exact h2
            | true =>
              refine iteT ⟨_, rfl, (by show 2 ≤ sizeLine; decide), fun t3 ht3 => ?_⟩
              obtain ⟨H3, e3, h1, h2⟩ := some_ hb p.2 (by rw [hb3] <;> rfl) t3 ht3
              refine ⟨fd, acc2, _, rfl, rfl, h1, by rw [sizeLine_eq]; omega, ⟨_, _, _, rfl⟩, ?_⟩
              rw [← e3]
              exact h2
    · rintro σ H2 ⟨⟨x5', x6', x7', rfl⟩, G2, acc2, s2, ha2, hp2, hl2⟩
      have yl := paired_len hq
      have e : B.take ys.length = B := by rw [yl, List.take_length]
      rw [e] at hp2
      refine ⟨⟨_, _, _, _, _, rfl⟩, G2, acc2, s2, ha2, ?_, by omega⟩
      have e2 : Gf.sharedM (A1.take (i + 1)) B = Gf.sharedM (A1.take i) B ++ B.filterMap (Gf.clipM p) := by
        rw [take_snoc hpi]
        unfold Gf.sharedM
        rw [List.flatMap_append]
        simp
      rw [e2]
      exact hp2
  · rintro σ H1 ⟨⟨x3, x4, x5, x6, x7, rfl⟩, G, acc, s, ha, hpa, hl⟩
    have xl := paired_len hp
    have e : A1.take xs.length = A1 := by rw [xl, List.take_length]
    rw [e] at hpa
    exact ⟨_, rfl, q H1 fd s.all ⟨acc, ha, paired_mono hpa fun _ _ z => z.keep s.keep⟩⟩
end
end Gt
/-! ## GfK9 -/
set_option Elab.async false
set_option linter.all false
set_option maxRecDepth 100000
set_option maxHeartbeats 4000000
namespace Gt
open PySem PySem.Spec PyProof.Rows L2 Wm
/-! ### joined -/
abbrev T0 : List (Addr × Str) := [(684, "joined.<locals>.<lambda>")]
theorem sqT_cutL {K : PySem.W.Frag} {H : Hp} {d t : Addr} {ys xs : List V} (hd : H d = some (.lst ys)) (h : SqT K H t xs) : SqT K (cutH H d) t xs := by
  rcases h with (h | ⟨o, h⟩) | h
  · exact .inl (.inl (by rw [cut_ne (fun z => by rw [z, hd] at h; cases h)]; exact h))
  · exact .inl (.inr ⟨o, by rw [cut_ne (fun z => by rw [z, hd] at h; cases h)]; exact h⟩)
  · exact .inr h
theorem tabs_cutL {T : List (Addr × Str)} {H : Hp} {d : Addr} {ys : List V} (hd : H d = some (.lst ys)) (t : LamX.Tabs T H) : LamX.Tabs T (cutH H d) := fun p hp => by
  obtain ⟨ps, h1, h2, h3⟩ := t p hp
  refine ⟨ps, by rw [cut_ne (fun z => by rw [z, hd] at h1; cases h1)]; exact h1, h2, fun pos cv hc => ?_⟩
  obtain ⟨c, e1, e2⟩ := h3 pos cv hc
  exact ⟨c, e1, by rw [cut_ne (fun z => by rw [z, hd] at e2; cases e2)]; exact e2⟩
theorem runs_addr {K : PySem.W.Frag} {H : Hp} : ∀ {xs : List V} {R : List (Int × Int)}, Paired (PrV K H) xs (R.map so) → ∃ S : List (Addr × (Int × Int)), xs = S.map (fun p => V.ref p.1) ∧ R = S.map (·.2) ∧ ∀ p ∈ S, SqT K H p.1 [.int p.2.1, .int p.2.2]
  | _, [], .nil => ⟨[], rfl, rfl, fun _ h => absurd h (by simp)⟩
  | _, r :: R, .cons h t => by
    obtain ⟨a, e, ha⟩ := h
    obtain ⟨S, e1, e2, hS⟩ := runs_addr t
    refine ⟨(a, r) :: S, ?_, ?_, fun p hp => ?_⟩
    · rw [e, e1] <;> rfl
    · rw [e2] <;> rfl
    · rcases List.mem_cons.mp hp with z | z
      · rw [z]; exact ha
      · exact hS p z
theorem ixN_last {n i : Nat} (h : n = i + 1) : ixN n (-1) = some i := by
  unfold ixN
  rw [if_neg (by omega), if_pos (by omega), h]
  congr 1
  omega
theorem set_so {F0 : List (Int × Int)} {p q : Int × Int} : ((F0 ++ [p]).map so).set F0.length (so q) = (F0 ++ [q]).map so := by
  rw [List.map_append, List.map_append, List.set_append_right _ _ (by rw [List.length_map]; exact Nat.le_refl _), List.length_map, Nat.sub_self] <;> rfl
def spJoined (K : PySem.W.Frag) : Sp := fun vs H Q _ => ∃ (a : Addr) (R : List (Int × Int)) (n : Int), vs = [.ref a] ∧ PairsL K H a (R.map so) ∧ Gf.Apart n R ∧ R.length ≤ 1000 ∧ LamX.Tabs T0 H ∧
  ∀ H' d F R', LamX.ExtN H H' → LamX.Tabs T0 H' → R.Perm R' → Gf.JoinOk R' F → PairsL K H' d (F.map so) → Q (.ref d) H'
abbrev BodyWc (P : Program) (w : World) (K : PySem.W.Frag) (mg : Str → Option Value) (base : Heap) (qual : Str) (st : Stmt) (f : Addr) (N : List Str) (k : Nat) (sp : Sp) (cdv : Value) : Prop :=
  ∀ (A : Around) (outer : List Env) (s : Shared) (H : Hp) (vs : List V) (Q : VK) (E : XK) (c : Bool) (pn : List (Addr × Obj)), WarmX (cxW P w K mg base N qual (defScope st) f cdv A outer s H E c pn) → L2H.RoomH k (A.deeper (envOfC qual (defScope st) s.heap.objs.size f cdv)) → sp vs H Q E →
    ∃ t, PSs (cxW P w K mg base N qual (defScope st) f cdv A outer s H E c pn).nox (defBody st) t ∧ t { nx := fun _ H' => Q .non H', rt := Q } (start N vs) H
section
variable {P : Program} {w : World} {K : PySem.W.Frag} {mg : Str → Option Value} {base : Heap} {x qual : Str} {st : Stmt} {f : Addr} {N ps : List Str} {k : Nat} {sp : Sp} {cdv : Value}
theorem okWc {kws : List (Str × V)} {fd : FuncData} (F : FunD K x qual (defArgs st) (defBody st) (defScope st) [] kws f fd) (hc : fd.code = cdv) (S : FnScope N ps (defScope st)) (len : ∀ vs H Q E, sp vs H Q E → vs.length = ps.length) (hbody : BodyWc P w K mg base qual st f N k sp cdv) : FnW P w K mg base (k + 1) f fd ps sp := by
  obtain ⟨oc, od, dV, kV, doc, pm, an, cdv', ct, osl, rfl, lk, hcd, _, _⟩ := F.ex
  have hc' : cdv' = cdv := hc
  subst hc'
  refine ⟨fn_of lk hcd S len fun A outer s H vs Q E hr hsp => ?_, L2H.fn_ofH lk hcd S len fun A outer s H vs Q E p hot hr hsp => ?_⟩
  · obtain ⟨t, h, q⟩ := hbody A outer s H vs Q E true [] (.inl rfl) ⟨hr.dp, hr.un⟩ hsp
    exact ⟨t, h.nox, q⟩
  · obtain ⟨t, h, q⟩ := hbody A outer s H vs Q E false [p] (.inr ⟨p, hot, List.mem_singleton.mpr rfl⟩) hr hsp
    exact ⟨t, h.nox, q⟩
theorem calWc_of (F : ∃ fd, FunD K x x (defArgs st) (defBody st) (defScope st) [] [] f fd ∧ fd.code = cdv) (g : mg x = some (.ref f)) (S : FnScope N ps (defScope st)) (b : BindN x x st ps) (len : ∀ vs H Q E, sp vs H Q E → vs.length = ps.length) (hb : BodyWc P w K mg base x st f N k sp cdv) : CalW P w K mg base (k + 1) x sp := by
  obtain ⟨fd, F, hc⟩ := F
  exact ⟨f, fd, ps, okWc F hc S len hb, g, F.kp, F.bindsN b⟩
end
section
variable {P : Program} {w : World} {K : PySem.W.Frag} {mg : Str → Option Value} {base : Heap}
theorem ok_joined (T : Txt K mg) (TB : LamX.TabB base mg 688 684) : CalW P w K mg base 2 "joined" (spJoined K) := by
  refine calWc_of T.f_joined T.g_joined sc_joined (fun _ _ _ _ _ _ us hl => match us, hl with | [_], _ => rfl) (fun vs H Q E h => by obtain ⟨a, R, n, rfl, _⟩ := h; rfl) fun A outer s H vs Q E c pn hw hr h => ?_
  obtain ⟨a, R, n, rfl, ⟨xs, hxs, hp⟩, hap, hRl, hT, q⟩ := h
  refine ⟨_, (pss_cons (ps_set (i := 1) sc_joined.nd rfl (Or.inl rfl) (pe_lst pa_nil))
  (pss_cons (ps_forW PassesOwn.never hw (pi_listW (pe_sortK (T := T0) (x := ("" : Str)) (p0 := ⟨0, 0, 0, 0⟩) hr TB rfl (List.mem_singleton.mpr (by with_unfolding_all rfl)) (fun p hp _ => by rw [List.mem_singleton.mp hp]; with_unfolding_all rfl) rfl T.b_sorted T.b_int (pv 0))) (pg_name (i := 2) sc_joined.nd rfl (Or.inl rfl))
    (pss_cons (ps_parW (i := 3) (j := 4) hw sc_joined.nd rfl rfl (by decide) rfl rfl (pa_cons (pe_ix (r := rIxT K) ix_tup (pv 2) pe_int (fun _ _ => rfl)) (pa_cons (pe_cw (ok_end_of T) hr (by decide) hw rfl (pa_cons (pv 2) pa_nil)) pa_nil)) (by rfl))
    (pss_one (ps_if (PW.pt (pw_and (pt_cmpR op_gt (pe_callB call_len_seq rfl T.b_len (by decide +kernel) (pa_cons (pv 1) pa_nil)) pe_int (nomark _)) (pw_and1 (PW.pt (pw_or (pt_cmp (pc_isN (pe_ix (r := rIxT K) ix_tup (pe_ix (r := rIxL K) ix_list (pv 1) (pe_un un_neg pe_int) (fun _ _ => rfl)) pe_int (fun _ _ => rfl)))) (pw_or1 (pt_cmpR op_le (pv 3) (pe_ix (r := rIxT K) ix_tup (pe_ix (r := rIxL K) ix_list (pv 1) (pe_un un_neg pe_int) (fun _ _ => rfl)) pe_int (fun _ _ => rfl)) (nomark _))))))))
      (pss_one (ps_if (pt_val (pe_cw (ok_is_before T) hr (by decide) hw rfl (pa_cons (pe_ix (r := rIxT K) ix_tup (pe_ix (r := rIxL K) ix_list (pv 1) (pe_un un_neg pe_int) (fun _ _ => rfl)) pe_int (fun _ _ => rfl)) (pa_cons (pv 4) pa_nil))))
        (pss_one (ps_asg (pe_tup (pa_cons (pe_ix (r := rIxT K) ix_tup (pe_ix (r := rIxL K) ix_list (pv 1) (pe_un un_neg pe_int) (fun _ _ => rfl)) pe_int (fun _ _ => rfl)) (pa_cons (pv 4) pa_nil))) (pg_sub (pv 1) (pe_un un_neg pe_int) set_list)))
        pss_nil))
      (pss_one (ps_expr (pe_bm F.plainAttrs_list F.slot_list_append F.type_list_append mt_append (pv 1) (pa_cons (pe_tup (pa_cons (pv 3) (pa_cons (pv 4) pa_nil))) pa_nil))))))))
  (pss_one (ps_ret (pv 1))))), ?_⟩
  obtain ⟨S, rfl, rfl, hS⟩ := runs_addr hp
  rw [List.length_map] at hRl
  refine ⟨(by show 0 ≤ sizeLine; decide), fun fd hfd => ?_⟩
  have e1 : Same H (upd H fd (.lst [])) := same_upd hfd
  refine ⟨_, rfl, a, S.map fun p => (p.1, p.2.1), rfl, ?_, ?_, hT.ext e1, fun H2 D eN T2 nD => ⟨D, rfl, ⟨_, SqL.of upd_same⟩, ?_⟩⟩
  · have e : ((S.map fun p => (p.1, p.2.1)).map fun p : Addr × Int => V.ref p.1) = S.map fun p => V.ref p.1 := by rw [List.map_map] <;> rfl
    rw [e]
    exact SqL.of (e1 _ _ hxs)
  · intro y hy
    obtain ⟨z, hz, e⟩ := List.mem_map.mp hy
    rw [← e]
    exact ⟨[.int z.2.2], sqT_keep (same_ext e1) (hS z hz)⟩
  · have eS : ((S.map fun p => (p.1, p.2.1)).mergeSort fun p q => decide (p.2 ≤ q.2)).map (fun p : Addr × Int => V.ref p.1) = (S.mergeSort fun p q => decide (p.2.1 ≤ q.2.1)).map fun p => V.ref p.1 := by
      rw [← List.map_mergeSort (r := fun p q : Addr × (Int × Int) => decide (p.2.1 ≤ q.2.1)) (f := fun p : Addr × (Int × Int) => (p.1, p.2.1)) (fun _ _ _ _ => rfl), List.map_map] <;> rfl
    rw [eS]
    have hpm : S.Perm (S.mergeSort fun p q => decide (p.2.1 ≤ q.2.1)) := (List.mergeSort_perm _ _).symm
    have hsr : (S.mergeSort fun p q => decide (p.2.1 ≤ q.2.1)).Pairwise fun p q => p.2.1 ≤ q.2.1 := by
      have := List.pairwise_mergeSort (le := fun p q : Addr × (Int × Int) => decide (p.2.1 ≤ q.2.1)) (fun a b c h1 h2 => by simp only [decide_eq_true_eq] at *; omega) (fun a b => by simp only [Bool.or_eq_true, decide_eq_true_eq]; omega) S
      exact this.imp fun h => by simpa using h
    generalize (S.mergeSort fun p q => decide (p.2.1 ≤ q.2.1)) = S' at hpm hsr
    have hpR : (S.map (·.2)).Perm (S'.map (·.2)) := hpm.map _
    have hS' : ∀ p ∈ S', SqT K H p.1 [.int p.2.1, .int p.2.2] := fun p h => hS p (hpm.mem_iff.mpr h)
    have hap' := hap.perm hpR
    have hch := hap'.chain (List.pairwise_map.mpr hsr)
    have hl' : S'.length ≤ 1000 := by rw [← hpm.length_eq]; exact hRl
    have hf2 : H2 fd = some (.lst []) := keep_lst eN upd_same
    have fD : fd ≠ D := ne_of_none hf2 nD
    have hf3 : upd H2 D (.lst (S'.map fun p => V.ref p.1)) fd = some (.lst []) := by rw [upd_ne fD]; exact hf2
    have hD3 : upd H2 D (.lst (S'.map fun p => V.ref p.1)) D = some (.lst (S'.map fun p => V.ref p.1)) := upd_same
    have eH3 : LamX.ExtN H (upd H2 D (.lst (S'.map fun p => V.ref p.1))) := (same_ext e1).trans (eN.trans (same_ext (same_upd nD)))
    have T3 : LamX.Tabs T0 (upd H2 D (.lst (S'.map fun p => V.ref p.1))) := T2.ext (same_upd nD)
    generalize upd H2 D (.lst (S'.map fun p => V.ref p.1)) = H3 at hf3 hD3 eH3 T3
    have hS3 : ∀ p ∈ S', SqT K (cutH H3 fd) p.1 [.int p.2.1, .int p.2.2] := fun p h => sqT_cutL hf3 (sqT_keep eH3 (hS' p h))
    have hDc : cutH H3 fd D = some (.lst (S'.map fun p => V.ref p.1)) := by rw [cut_ne (Ne.symm fD)]; exact hD3
    refine for_list (K := K) (a := D) (xs := S'.map fun p => V.ref p.1) (fun i σ H' => (∃ x2 x3 x4, σ = [some (.ref a), some (.ref fd), x2, x3, x4]) ∧ ∃ G acc F, Snap (cutH H3 fd) [fd] G H' ∧ H' fd = some (.lst acc) ∧ Paired (PrV K G) acc (F.map so) ∧ Gf.JoinOk ((S'.map (·.2)).take i) F ∧ acc.length ≤ i) ?_ ?_ ?_ ?_
    · exact ⟨⟨_, _, _, rfl⟩, cutH H3 fd, [], [], Snap.of (fun z hz => by rw [List.mem_singleton.mp hz]; exact cut_self) cut_same, hf3, .nil, Gf.joinOk_nil, Nat.le_refl _⟩
    · rintro i σ H4 _ ⟨_, G, acc, F, s4, _⟩
      exact SqL.of (s4.all _ _ hDc)
    · rintro i x σ H4 hx ⟨⟨x2, x3, x4, rfl⟩, G, acc, F, s4, ha, hpa, hj, hl⟩
      obtain ⟨pp, hpp, rfl⟩ : ∃ pp, S'[i]? = some pp ∧ x = .ref pp.1 := by
        rw [List.getElem?_map] at hx
        cases hq : S'[i]? with
        | none => rw [hq] at hx; cases hx
        | some pp => rw [hq] at hx; exact ⟨pp, rfl, (Option.some.inj hx).symm⟩
      obtain ⟨t, st, l⟩ := pp
      have hm := List.mem_of_getElem? hpp
      have ht : SqT K H4 t [.int st, .int l] := sqT_keep (same_ext s4.all) (hS3 _ hm)
      have il : i < S'.length := (List.getElem?_eq_some_iff.mp hpp).1
      have hri : (S'.map (·.2))[i]? = some (st, l) := by rw [List.getElem?_map, hpp] <;> rfl
      have tk : (S'.map (·.2)).take (i + 1) = (S'.map (·.2)).take i ++ [(st, l)] := take_snoc hri
      have l1 : 1 ≤ l := hap'.len (st, l) (List.mem_of_getElem? hri)
      have dec : S'.map (·.2) = (S'.map (·.2)).take i ++ (st, l) :: (S'.map (·.2)).drop (i + 1) := by
        obtain ⟨hlt, e⟩ := List.getElem?_eq_some_iff.mp hri
        rw [← e, ← List.drop_eq_getElem_cons hlt, List.take_append_drop]
      have ahd := hj.ahead (s := st) (l := l) (M := (S'.map (·.2)).drop (i + 1)) (by rw [← dec]; exact hch)
      have al := paired_len hpa
      rw [List.length_map] at al
      refine ⟨_, rfl, t, _, _, _, rfl, rfl, ht, atI_nat (j := 0) rfl, _, rfl, t, st, some l, rfl, ht, _, _, rfl, ?_⟩
      have app : (∀ p ∈ F, p.2 < st) → ∀ t3, H4 t3 = none → ∃ H5, H5 = upd (upd H4 t3 (.tup [.int st, .int (st + l)])) fd (.lst (acc ++ [.ref t3])) ∧ upd H4 t3 (.tup [.int st, .int (st + l)]) fd = some (.lst acc) ∧ ∃ G acc F, Snap (cutH H3 fd) [fd] G H5 ∧ H5 fd = some (.lst acc) ∧ Paired (PrV K G) acc (F.map so) ∧ Gf.JoinOk ((S'.map (·.2)).take (i + 1)) F ∧ acc.length ≤ i + 1 := fun hlt t3 ht3 => by
        have y1 : fd ≠ t3 := ne_of_none ha ht3
        have s5 := (s4.add (o := .tup [.int st, .int (st + l)]) ht3 (fun z hz => by rw [List.mem_singleton.mp hz]; exact y1)).put (d := fd) (o := .lst (acc ++ [.ref t3])) (by simp)
        refine ⟨_, rfl, by rw [upd_ne y1]; exact ha, _, _, F ++ [(st, st + l)], s5, upd_same, ?_, ?_, by rw [List.length_append, List.length_singleton]; omega⟩
        · rw [List.map_append]
          exact paired_snoc ⟨t3, rfl, SqT.of upd_same⟩ (paired_mono hpa fun _ _ z => z.keep (same_ext (same_upd (s4.sub.free ht3))))
        · rw [tk]
          exact hj.add l1 hlt
      have tail : (∀ p ∈ F, p.2 < st) → ∀ (D' : L2.Ends), (∀ H5 G acc F, Snap (cutH H3 fd) [fd] G H5 → H5 fd = some (.lst acc) → Paired (PrV K G) acc (F.map so) → Gf.JoinOk ((S'.map (·.2)).take (i + 1)) F → acc.length ≤ i + 1 → D'.nx [some (.ref a), some (.ref fd), some (.ref t), some (.int st), some (.int (st + l))] H5) → True := fun _ _ _ => trivial
      refine ⟨_, rfl, _, _, rfl, .inl (SqL.of ha), _, _, rfl, rfl, _, rfl, ?_⟩
      rcases List.eq_nil_or_concat F with hF | ⟨F0, p0, hF⟩
      · subst hF
        have a0 : acc = [] := List.eq_nil_of_length_eq_zero (by rw [al] <;> rfl)
        refine ifF (by rw [a0]; decide) (iteF ?_)
        refine ⟨_, rfl, .inl ⟨rfl, acc, SqL.of ha⟩, _, rfl, _, rfl, (by show 2 ≤ sizeLine; decide), fun t3 ht3 => ?_⟩
        obtain ⟨H5, e5, h1, h2⟩ := app (fun _ h => absurd h (by simp)) t3 ht3
        refine ⟨fd, acc, _, rfl, rfl, h1, by rw [sizeLine_eq]; omega, ⟨_, _, _, rfl⟩, ?_⟩
        rw [e5] at h2
        exact h2
      · rw [List.concat_eq_append] at hF
        subst hF
        rw [List.length_append, List.length_singleton] at al
        obtain ⟨v0, hv0, t0, rfl, ht0⟩ := paired_at' (i := F0.length) (b := so p0) hpa (by rw [List.map_append, List.getElem?_append_right (by rw [List.length_map]; exact Nat.le_refl _), List.length_map, Nat.sub_self] <;> rfl)
        have ht4 := sqT_keep s4.keep ht0
        obtain ⟨ah1, ah2⟩ := ahd F0 p0 rfl
        refine ifT (by omega) ?_
        refine ⟨_, rfl, _, rfl, fd, acc, _, .ref t0, rfl, rfl, SqL.of ha, atI_end al hv0, t0, _, _, _, rfl, rfl, ht4, atI_nat (j := 1) rfl, _, rfl, ifF (fun z => by cases z) ?_⟩
        refine ⟨_, rfl, _, rfl, _, rfl, fd, acc, _, .ref t0, rfl, rfl, SqL.of ha, atI_end al hv0, t0, _, _, _, rfl, rfl, ht4, atI_nat (j := 1) rfl, _, _, rfl, rfl, _, rfl, ?_⟩
        refine if2 (fun c => ?_) (fun c => ?_)
        · have es : st = p0.2 := by omega
          subst es
          refine ⟨_, rfl, _, rfl, fd, acc, _, .ref t0, rfl, rfl, SqL.of ha, atI_end al hv0, t0, _, _, _, rfl, rfl, ht4, atI_nat (j := 1) rfl, _, rfl, some p0.2, some (p0.2 + l), rfl, _, rfl, ?_⟩
          refine ifT (show p0.2 < p0.2 + l by omega) ?_
          refine ⟨_, rfl, _, rfl, fd, acc, _, .ref t0, rfl, rfl, SqL.of ha, atI_end al hv0, t0, _, _, _, rfl, rfl, ht4, atI_nat (j := 0) rfl, _, rfl, (by show 2 ≤ sizeLine; decide), fun t3 ht3 => ?_⟩
          have y1 : fd ≠ t3 := ne_of_none ha ht3
          have s5 := (s4.add (o := .tup [.int p0.1, .int (p0.2 + l)]) ht3 (fun z hz => by rw [List.mem_singleton.mp hz]; exact y1)).put (d := fd) (o := .lst (acc.set F0.length (.ref t3))) (by simp)
          refine ⟨_, rfl, _, rfl, fd, acc, _, F0.length, rfl, rfl, by rw [upd_ne y1]; exact ha, ixN_last al, ⟨_, _, _, rfl⟩, _, _, F0 ++ [(p0.1, p0.2 + l)], s5, upd_same, ?_, ?_, by rw [List.length_set]; omega⟩
          · rw [← set_so]
            exact paired_set ⟨t3, rfl, SqT.of upd_same⟩ _ (paired_mono hpa fun _ _ z => z.keep (same_ext (same_upd (s4.sub.free ht3))))
          · rw [tk]
            exact hj.glue l1
        · refine ⟨_, rfl, .inl ⟨rfl, acc, SqL.of ha⟩, _, rfl, _, rfl, (by show 2 ≤ sizeLine; decide), fun t3 ht3 => ?_⟩
          obtain ⟨H5, e5, h1, h2⟩ := app (fun p hp => by
            rcases List.mem_append.mp hp with z | z
            · exact ah2 p z
            · rw [List.mem_singleton.mp z]; omega) t3 ht3
          refine ⟨fd, acc, _, rfl, rfl, h1, by rw [sizeLine_eq]; omega, ⟨_, _, _, rfl⟩, ?_⟩
          rw [e5] at h2
          exact h2
    · rintro σ H4 ⟨⟨x2, x3, x4, rfl⟩, G, acc, F, s4, ha, hpa, hj, hl⟩
      have eT : (S'.map (·.2)).take (S'.map fun p => V.ref p.1).length = S'.map (·.2) := by rw [List.length_map]; exact List.take_of_length_le (by rw [List.length_map]; exact Nat.le_refl _)
      rw [eT] at hj
      have e34 : LamX.ExtN H H4 := fun b o hb ht => s4.all b o (by rw [cut_ne (ne_of_none hb hfd)]; exact eH3 b o hb ht)
      exact ⟨_, rfl, q H4 fd F _ e34 ((tabs_cutL hf3 T3).ext s4.all) hpR hj ⟨acc, ha, paired_mono hpa fun _ _ z => z.keep s4.keep⟩⟩
end
end Gt
/-! ## GfK10 -/
set_option Elab.async false
set_option linter.all false
set_option maxRecDepth 100000
set_option maxHeartbeats 4000000
namespace Gt
open PySem PySem.Spec PyProof.Rows L2 Wm GenW
/-! ### Pairs, Room -/
def spRoomI (K : PySem.W.Frag) : Sp := fun vs H Q _ => ∃ (x dx r : Addr), vs = [.ref x, .ref r] ∧ H x = some (.ins 838 dx []) ∧
  ((∃ dy d, H r = some (.ins 725 dy [("pairs", .ref d)]) ∧ Q .non (upd H x (.ins 838 dx [("pairs", .ref d)]))) ∨
    (∃ t n, H r = some (.lst [.ref t]) ∧ SqT K H t [.int 0, .int n] ∧ (1 ≤ n ∧ n ≤ 1000000) ∧ LamX.Tabs T0 H ∧ ∀ H' d, LamX.ExtN H H' → LamX.Tabs T0 H' → PairsL K H' d [(0, some n)] → Q .non (upd H' x (.ins 838 dx [("pairs", .ref d)]))))
def spRoomOf (K : PySem.W.Frag) : Sp := fun vs H Q _ => ∃ d : Addr, vs = [.ref d] ∧ ∀ H' z dx, Same H H' → H z = none → H' z = some (.ins 838 dx [("pairs", .ref d)]) → Q (.ref z) H'
def spSub (K : PySem.W.Frag) : Sp := fun vs H Q _ => ∃ (a b : Addr) (A : List (Int × Option Int)) (P : List (Int × Int)), vs = [.ref a, .ref b] ∧ RoomAt K H a A ∧ RoomAt K H b (P.map so) ∧ A.length ≤ 1000 ∧ P.length ≤ 1000 ∧ ∀ H' z, Same H H' → RoomAt K H' z (Gf.sharedM A (Gf.othersM P)) → Q (.ref z) H'
def spRunsOf (K : PySem.W.Frag) : Sp := fun vs H Q _ => ∃ (a : Addr) (F : List (Int × Int)), vs = [.ref a] ∧ PairsL K H a (F.map so) ∧ F.length ≤ 10000 ∧ ∀ H' d, Same H H' → H d = none → PairsL K H' d ((Gf.runsM F).map so) → Q (.ref d) H'
def spRuns (K : PySem.W.Frag) : Sp := fun vs H Q _ => ∃ (a : Addr) (F : List (Int × Int)), vs = [.ref a] ∧ RoomAt K H a (F.map so) ∧ F.length ≤ 10000 ∧ ∀ H' d, Same H H' → H d = none → PairsL K H' d ((Gf.runsM F).map so) → Q (.ref d) H'
theorem joined_one {n : Int} {R' F : List (Int × Int)} (h : ([(0, n)] : List (Int × Int)).Perm R') (j : Gf.JoinOk R' F) (hn : 1 ≤ n) : F = [(0, n)] := by
  have e : R' = [(0, n)] := List.perm_singleton.mp h.symm
  subst e
  rcases List.eq_nil_or_concat F with hF | ⟨F0, p0, hF⟩
  · have := j.none hF
    cases this
  · rw [List.concat_eq_append] at hF
    subst hF
    obtain ⟨L0, r, e1, e2⟩ := j.last F0 p0 rfl
    have el : L0 = [] ∧ r = (0, n) := by
      have := Gf.last_inj (A := []) (B := L0) (a := (0, n)) (b := r) e1
      exact ⟨this.1.symm, this.2.symm⟩
    rw [el.2] at e2
    have e3 : p0.2 = n := by rw [e2]; show 0 + n = n; omega
    have ap : Gf.Apart n [(0, n)] := ⟨fun r hr => by rw [List.mem_singleton.mp hr]; exact hn, fun x => by
      rw [Gf.cntR_cons, Gf.cntR_nil]
      unfold Gf.oneIn
      by_cases c : 0 ≤ x ∧ x < n
      · rw [if_pos c]
        split <;> omega
      · rw [if_neg c, if_neg (fun z => by have := Gf.inR_iff.mp z; simp only at this; omega)]
        exact Nat.le_refl _⟩
    have b0 := j.bound ap (p := p0) (by simp)
    have s0 := j.sum
    have p0p := j.pos p0 (by simp)
    have nn : ∀ q ∈ F0, q.1 < q.2 := fun q hq => j.pos q (by simp [hq])
    have s1 := Gf.sumP_nonneg nn
    rw [Gf.sumP_app, Gf.sumP_cons, Gf.sumP_nil, Gf.sumR_cons, Gf.sumR_nil] at s0
    simp only at s0
    rcases List.eq_nil_or_concat F0 with hF0 | ⟨F1, q, hF0⟩
    · subst hF0
      have : p0 = (0, n) := by
        obtain ⟨x, y⟩ := p0
        simp only [Gf.sumP_nil] at s0 e3
        have ex : x = 0 := by omega
        rw [ex, e3]
      rw [this] <;> rfl
    · exfalso
      rw [List.concat_eq_append] at hF0
      subst hF0
      have hs := j.sep
      obtain ⟨hs1, _, hs3⟩ := List.pairwise_append.mp hs
      have h1 := hs3 q (by simp) p0 (by simp)
      have h2 := nn q (by simp)
      have bq := j.bound ap (p := q) (by simp)
      have z0 : Gf.cntP ((F1 ++ [q]) ++ [p0]) q.2 = 0 := by
        unfold Gf.cntP
        refine List.countP_eq_zero.mpr fun r hr z => ?_
        have zi := Gf.inP_iff.mp z
        rcases List.mem_append.mp hr with hr | hr
        · rcases List.mem_append.mp hr with hr | hr
          · have := (List.pairwise_append.mp hs1).2.2 r hr q (by simp)
            omega
          · rw [List.mem_singleton.mp hr] at zi
            omega
        · rw [List.mem_singleton.mp hr] at zi
          omega
      have c1 := j.cnt q.2
      rw [z0, Gf.cntR_cons, Gf.cntR_nil, if_pos (Gf.inR_iff.mpr ⟨by show 0 ≤ q.2; omega, by show q.2 < 0 + n; omega⟩)] at c1
      omega
theorem pairs_len {n : Int} {L F : List (Int × Int)} (h : ∀ p ∈ F, p.1 < p.2) : (F.length : Int) ≤ Gf.sumP F := by
  induction F with
  | nil => exact Int.le_refl _
  | cons p r ih =>
    rw [Gf.sumP_cons, List.length_cons]
    have h1 := h p List.mem_cons_self
    have h2 := ih fun q hq => h q (List.mem_cons_of_mem _ hq)
    omega
section
variable {P : Program} {w : World} {K : PySem.W.Frag} {mg : Str → Option Value} {base : Heap}
theorem ok_Pairs_init (T : Txt K mg) : MakW P w K mg base 1 "Pairs" 725 spPairsI := by
  refine makW_of T.f_Pairs_init T.k_Pairs T.g_Pairs sc_Pairs_init (fun _ _ _ _ _ _ us hl => match us, hl with | [_, _], _ => rfl) (fun vs H Q E h => by obtain ⟨x, dx, d, rfl, hx, q⟩ := h; rfl) fun cdv A outer s H vs Q E c pn hw hr h => ?_
  obtain ⟨x, dx, d, rfl, hx, q⟩ := h
  refine ⟨_, (pss_one (ps_fld (pv 0) (pv 1) rfl)), ?_⟩
  refine ⟨_, rfl, _, rfl, _, _, _, _, rfl, hx, T.c_Pairs, T.n_Pairs_pairs, (by show 0 < 1000; decide), ?_⟩
  exact q
theorem ok_Room_init (T : Txt K mg) (TB : LamX.TabB base mg 688 684) : MakW P w K mg base 3 "Room" 838 (spRoomI K) := by
  refine makW_of T.f_Room_init T.k_Room T.g_Room sc_Room_init (fun _ _ _ _ _ _ us hl => match us, hl with | [_, _], _ => rfl) (fun vs H Q E h => by obtain ⟨x, dx, r, rfl, hx, h⟩ := h; rfl) fun cdv A outer s H vs Q E c pn hw hr h => ?_
  obtain ⟨x, dx, r, rfl, hx, h⟩ := h
  refine ⟨_, (pss_cons (ps_if (pt_val (pe_callB call_isB rfl T.b_isinstance (by decide +kernel) (pa_cons (pv 1) (pa_cons (pe_gr rfl T.g_Pairs) pa_nil))))
    (pss_cons (ps_fld (pv 0) (pe_fld (pv 1) rfl) rfl)
    (pss_one ps_retN))
    pss_nil)
  (pss_cons (ps_if (PW.pt (pw_or (pt_not (pt_val (pe_callB call_isB rfl T.b_isinstance (by decide +kernel) (pa_cons (pv 1) (pa_cons (pe_bltn (v := .ty "list") rfl T.b_list (by decide +kernel) rfl) pa_nil))))) (pw_or1 (pt_cmpR op_gt (pe_callB call_len_seq rfl T.b_len (by decide +kernel) (pa_cons (pv 1) pa_nil)) (pe_gi rfl T.v_MOST_RUNS) (nomark _)))))
    (pss_one ps_never)
    pss_nil)
  (pss_cons (ps_forW PassesOwn.never hw (pi_enumW rfl T.b_enumerate (pa_cons (pv 1) pa_nil)) (pg_tupW hw (pgs_cons (pg_name (i := 2) sc_Room_init.nd rfl (Or.inl rfl)) (pgs_cons (pg_name (i := 3) sc_Room_init.nd rfl (Or.inl rfl)) pgs_nil)))
    (pss_one (ps_if (pt_not (pt_val (pe_cw (ok_is_run T) hr (by decide) hw rfl (pa_cons (pv 3) pa_nil))))
      (pss_one ps_never)
      pss_nil)))
  (pss_one (ps_fld (pv 0) (pe_cw (ok_joined T TB) hr (by decide) hw rfl (pa_cons (pv 1) pa_nil)) rfl))))), ?_⟩
  refine ⟨_, rfl, ?_⟩
  rcases h with ⟨dy, d, hr1, q⟩ | ⟨t, n, hl, ht, hn, hT, q⟩
  · refine ⟨_, _, true, rfl, isi_ins T.i_Pairs hr1, true, rfl, iteT ?_⟩
    refine ⟨_, rfl, _, _, _, _, _, rfl, hr1, T.c_Pairs, T.n_Pairs_pairs, rfl, _, rfl, _, _, _, _, rfl, hx, T.c_Room, T.n_Room_pairs, (by show 0 < 1000; decide), ?_⟩
    exact q
  · refine ⟨_, _, false, rfl, isi_lstN T.i_list hl, false, rfl, iteF ?_⟩
    refine ⟨_, rfl, _, _, true, rfl, isi_lst hl, true, rfl, iteF ?_⟩
    refine ⟨_, rfl, _, _, rfl, .inl (SqL.of hl), _, _, rfl, rfl, _, rfl, ifF (by show ¬ ((1000 : Int) < ((1 : Nat) : Int)); decide) ?_⟩
    refine ⟨_, rfl, r, _, rfl, SqL.of hl, ?_⟩
    refine for_it (walk_enum (K := K) (a := r) (xs := [.ref t])) (fun i σ H' => (∃ x2 x3, σ = [some (.ref x), some (.ref r), x2, x3]) ∧ Same H H') ?_ ?_ ?_ ?_
    · exact ⟨⟨_, _, rfl⟩, Same.refl _⟩
    · rintro i σ H1 _ ⟨_, s⟩
      exact SqL.of (s _ _ hl)
    · rintro i y σ H1 H2 hi ⟨⟨x2, x3, rfl⟩, s⟩ ⟨T2, xa, xb, rfl, hT2, rfl, hxa, hxb⟩
      have i0 : i = 0 := by have : i < 1 := hi; omega
      subst i0
      have exb : xb = .ref t := (Option.some.inj hxb).symm
      subst exb
      have s2 : Same H (upd H1 T2 (.tup [xa, .ref t])) := s.trans (same_upd hT2)
      refine ⟨T2, _, rfl, SqT.of upd_same, rfl, _, _, rfl, _, _, rfl, rfl, ?_⟩
      exact ⟨_, rfl, t, 0, n, rfl, sqT_keep (same_ext s2) ht, by omega, hn, true, rfl, iteF ⟨⟨_, _, rfl⟩, s2⟩⟩
    · rintro σ H1 ⟨⟨x2, x3, rfl⟩, s⟩
      have ap : Gf.Apart n [((0 : Int), n)] := ⟨fun r hr => by rw [List.mem_singleton.mp hr]; exact hn.1, fun y => by
        rw [Gf.cntR_cons, Gf.cntR_nil]
        unfold Gf.oneIn
        by_cases c : 0 ≤ y ∧ y < n
        · rw [if_pos c]
          split <;> omega
        · rw [if_neg c, if_neg (fun z => by have := Gf.inR_iff.mp z; simp only at this; omega)]
          exact Nat.le_refl _⟩
      refine ⟨_, rfl, r, [(0, n)], n, rfl, ⟨_, s _ _ hl, .cons ⟨t, rfl, sqT_keep (same_ext s) ht⟩ .nil⟩, ap, by show 1 ≤ 1000; decide, hT.ext s, fun H' d F R' e1 t1 pm j hd => ?_⟩
      have eF := joined_one pm j hn.1
      subst eF
      refine ⟨_, rfl, _, _, _, _, rfl, keep_ins ((same_ext s).trans e1) hx, T.c_Room, T.n_Room_pairs, (by show 0 < 1000; decide), ?_⟩
      exact q H' d ((same_ext s).trans e1) t1 hd
theorem ok_pairs_of (T : Txt K mg) : CalW P w K mg base 1 "pairs_of" (spPairsOf K) := by
  refine calW_of T.f_pairs_of T.g_pairs_of sc_pairs_of (fun _ _ _ _ _ _ us hl => match us, hl with | [_], _ => rfl) (fun vs H Q E h => by obtain ⟨a, dx, d, rfl, ha, q⟩ := h; rfl) fun cdv A outer s H vs Q E c pn hw hr h => ?_
  obtain ⟨a, dx, d, rfl, ha, q⟩ := h
  refine ⟨_, (pss_cons (ps_if (pt_val (pe_callB call_isB rfl T.b_isinstance (by decide +kernel) (pa_cons (pv 0) (pa_cons (pe_gr rfl T.g_Room) pa_nil))))
    (pss_one (ps_ret (pe_fld (pv 0) rfl)))
    pss_nil)
  (pss_cons ps_never
  (pss_one (ps_ret pe_non)))), ?_⟩
  exact ⟨_, rfl, _, _, true, rfl, isi_ins T.i_Room ha, true, rfl, iteT ⟨_, rfl, _, _, _, _, _, rfl, ha, T.c_Room, T.n_Room_pairs, rfl, q⟩⟩
theorem ok_room_of (T : Txt K mg) (TB : LamX.TabB base mg 688 684) : CalW P w K mg base 5 "room_of" (spRoomOf K) := by
  refine calW_of T.f_room_of T.g_room_of sc_room_of (fun _ _ _ _ _ _ us hl => match us, hl with | [_], _ => rfl) (fun vs H Q E h => by obtain ⟨d, rfl, q⟩ := h; rfl) fun cdv A outer s H vs Q E c pn hw hr h => ?_
  obtain ⟨d, rfl, q⟩ := h
  refine ⟨_, (pss_one (ps_ret (pe_mkw (ok_Room_init T TB) hr (by decide) hw rfl (pa_cons (pe_mkw (ok_Pairs_init T) hr (by decide) hw rfl (pa_cons (pv 0) pa_nil)) pa_nil)))), ?_⟩
  refine ⟨_, rfl, fun x dx nx nd ne => ?_⟩
  have s1 : Same H (upd (upd H dx (.own x)) x (.ins 725 dx [])) := fun c o e => by rw [upd_ne (ne_of_none e nx), upd_ne (ne_of_none e nd)]; exact e
  refine ⟨x, dx, d, rfl, upd_same, rfl, ?_⟩
  rw [upd_upd]
  have s2 : Same H (upd (upd H dx (.own x)) x (.ins 725 dx [("pairs", .ref d)])) := fun c o e => by rw [upd_ne (ne_of_none e nx), upd_ne (ne_of_none e nd)]; exact e
  refine fun z dz nz ndz nez => ?_
  have xz : x ≠ z := fun y => by rw [← y, upd_same] at nz; cases nz
  have xd : x ≠ dz := fun y => by rw [← y, upd_same] at ndz; cases ndz
  refine ⟨z, dz, x, rfl, upd_same, .inl ⟨dx, d, by rw [upd_ne xz, upd_ne xd, upd_same], rfl, ?_⟩⟩
  rw [upd_upd]
  refine q _ z dz (fun c o e => by rw [upd_ne (ne_of_none (s2 c o e) nz), upd_ne (ne_of_none (s2 c o e) ndz)]; exact s2 c o e) (s2.free nz) upd_same
theorem ok_Room_amount (T : Txt K mg) : MetW P w K mg base 1 838 "amount" (spAmount K) := by
  refine metW_of T.f_Room_amount T.c_Room T.m_Room_amount sc_Room_amount (fun _ _ _ _ _ _ us hl => match us, hl with | [_], _ => rfl) (fun vs H Q E h => by obtain ⟨a, F, rfl, ⟨dx, d, ha, ⟨xs, hxs, hp⟩⟩, q⟩ := h; rfl) fun cdv A outer s H vs Q E c pn hw hr h => ?_
  obtain ⟨a, F, rfl, ⟨dx, d, ha, ⟨xs, hxs, hp⟩⟩, q⟩ := h
  refine ⟨_, (pss_cons (ps_set (i := 1) sc_Room_amount.nd rfl (Or.inl rfl) pe_int)
  (pss_cons (ps_forW PassesOwn.never hw (pi_listW (pe_fld (pv 0) rfl)) (pg_tupW hw (pgs_cons (pg_name (i := 2) sc_Room_amount.nd rfl (Or.inl rfl)) (pgs_cons (pg_name (i := 3) sc_Room_amount.nd rfl (Or.inl rfl)) pgs_nil)))
    (pss_cons (ps_if (pt_cmp (pc_isN (pv 3)))
      (pss_one (ps_ret pe_non))
      pss_nil)
    (pss_one (ps_aug (i := 1) sc_Room_amount.nd rfl (.inl rfl) (pe_op op_sub (pv 3) (pv 2)) ip_add))))
  (pss_one (ps_ret (pv 1))))), ?_⟩
  have xl := paired_len hp
  rw [List.length_map] at xl
  refine ⟨_, rfl, _, _, _, _, _, rfl, ha, T.c_Room, T.n_Room_pairs, rfl, d, rfl, ⟨_, SqL.of hxs⟩, ?_⟩
  refine for_list (K := K) (a := d) (xs := xs) (fun i σ H' => (∃ x2 x3, σ = [some (.ref a), some (.int (Gf.sumP (F.take i))), x2, x3]) ∧ H' = H) ?_ ?_ ?_ ?_
  · exact ⟨⟨_, _, rfl⟩, rfl⟩
  · rintro i σ H1 _ ⟨_, rfl⟩
    exact SqL.of hxs
  · rintro i x σ H1 hx ⟨⟨x2, x3, rfl⟩, rfl⟩
    obtain ⟨p0, hp0, t, rfl, ht⟩ := paired_at hp hx
    obtain ⟨p, hpi, rfl⟩ : ∃ p, F[i]? = some p ∧ p0 = so p := by
      rw [List.getElem?_map] at hp0
      cases hq : F[i]? with
      | none => rw [hq] at hp0; cases hp0
      | some p => rw [hq] at hp0; exact ⟨p, rfl, (Option.some.inj hp0).symm⟩
    refine ⟨t, _, rfl, ht, rfl, _, _, rfl, _, _, rfl, rfl, ?_⟩
    refine ⟨_, rfl, _, rfl, ifF (fun z => by cases z) ?_⟩
    have e : Gf.sumP (F.take (i + 1)) = Gf.sumP (F.take i) + (p.2 - p.1) := by rw [take_snoc hpi, Gf.sumP_app, Gf.sumP_cons, Gf.sumP_nil]; omega
    refine ⟨_, rfl, _, rfl, _, rfl, _, _, rfl, rfl, _, _, rfl, rfl, ?_⟩
    dsimp only
    rw [e]
    exact ⟨⟨_, _, rfl⟩, rfl⟩
  · rintro σ H1 ⟨⟨x2, x3, rfl⟩, rfl⟩
    refine ⟨_, rfl, ?_⟩
    rw [xl, List.take_length]
    exact q
theorem ok_Room_bool (T : Txt K mg) : SpcC P w K mg base 1 838 "__bool__" (spBool K) := by
  refine spcC_of T.f_Room_bool T.s_Room_bool sc_Room_bool (fun _ _ _ _ _ _ us hl => match us, hl with | [_], _ => rfl) (fun vs H Q E h => by obtain ⟨a, P, rfl, ⟨dx, d, ha, ⟨xs, hxs, hp⟩⟩, q⟩ := h; rfl) fun cdv A outer s H vs Q E hr h => ?_
  obtain ⟨a, P, rfl, ⟨dx, d, ha, ⟨xs, hxs, hp⟩⟩, q⟩ := h
  refine ⟨_, (pss_one (ps_ret (pe_cmpR op_gt (pe_callB call_len_seq rfl T.b_len (by decide +kernel) (pa_cons (pe_fld (pv 0) rfl) pa_nil)) pe_int (nomark _)))), ?_⟩
  refine ⟨_, rfl, _, _, _, _, _, rfl, ha, T.c_Room, T.n_Room_pairs, rfl, _, _, rfl, .inl (SqL.of hxs), _, _, rfl, rfl, ?_⟩
  have xl := paired_len hp
  have e : decide ((0 : Int) < (xs.length : Int)) = decide (0 < P.length) := by
    rw [xl]
    exact decide_eq_decide.mpr (by omega)
  rw [← e] at q
  exact q
theorem ok_Room_sub (T : Txt K mg) (TB : LamX.TabB base mg 688 684) : SpcW P w K mg base 6 838 "__sub__" (spSub K) := by
  refine spcW_of T.f_Room_sub T.s_Room_sub sc_Room_sub (fun _ _ _ _ _ _ us hl => match us, hl with | [_, _], _ => rfl) (fun vs H Q E h => by obtain ⟨a, b, A1, P1, rfl, ha, hb, lA, lP, q⟩ := h; rfl) fun cdv A outer s H vs Q E c pn hw hr h => ?_
  obtain ⟨a, b, A1, P1, rfl, ha, hb, lA, lP, q⟩ := h
  refine ⟨_, (pss_cons (ps_set (i := 2) sc_Room_sub.nd rfl (Or.inl rfl) (pe_cw (ok_pairs_of T) hr (by decide) hw rfl (pa_cons (pv 1) pa_nil)))
  (pss_cons (ps_if (pt_cmp (pc_isN (pv 2)))
    (pss_one ps_never)
    pss_nil)
  (pss_one (ps_ret (pe_cw (ok_room_of T TB) hr (by decide) hw rfl (pa_cons (pe_cw (ok_shared T) hr (by decide) hw rfl (pa_cons (pe_fld (pv 0) rfl) (pa_cons (pe_cw (ok_others T) hr (by decide) hw rfl (pa_cons (pv 2) pa_nil)) pa_nil))) pa_nil)))))), ?_⟩
  obtain ⟨dx, d, ha1, ha2⟩ := id ha
  obtain ⟨dy, d2, hb1, hb2⟩ := id hb
  refine ⟨_, rfl, b, dy, d2, rfl, hb1, ?_⟩
  refine ⟨_, rfl, _, rfl, ifF (fun z => by cases z) ?_⟩
  refine ⟨_, rfl, _, _, _, _, _, rfl, ha1, T.c_Room, T.n_Room_pairs, rfl, _, rfl, d2, P1, rfl, hb2, lP, fun H1 o s1 ho => ?_⟩
  refine ⟨d, o, A1, _, rfl, ha2.keep (same_ext s1), ho, by omega, Nat.le_trans others_len (by omega), fun H2 z s2 hz => ?_⟩
  exact ⟨z, rfl, fun H3 y dz s3 _ hy => q H3 y (s1.trans (s2.trans s3)) ⟨dz, z, hy, hz.keep (same_ext s3)⟩⟩
theorem ok_runs_of (T : Txt K mg) : CalC P w K mg base 1 "runs_of" (spRunsOf K) := by
  refine calC_of T.f_runs_of T.g_runs_of sc_runs_of (fun _ _ _ _ _ _ us hl => match us, hl with | [_], _ => rfl) (fun vs H Q E h => by obtain ⟨a, F, rfl, ⟨xs, hxs, hp⟩, hF, q⟩ := h; rfl) fun cdv A outer s H vs Q E hr h => ?_
  obtain ⟨a, F, rfl, ⟨xs, hxs, hp⟩, hF, q⟩ := h
  refine ⟨_, (pss_one (ps_ret (pe_lc (own := [("start", 1), ("end", 2)]) (g := (gTup K 2 (gCons (gName 1) (gCons (gName 2) gNil)))) rfl sc_runs_of.nd (pi_list (pv 0)) (blkOk_by (own := [("start", 1), ("end", 2)]) (N := ["pairs", "start", "end"]) (sc := defScope s_runs_of) (by decide +kernel)) (fun _ _ _ _ _ => (pg_tup rfl (pgs_cons (pg_name (i := 1) sc_runs_of.nd rfl (Or.inl rfl)) (pgs_cons (pg_name (i := 2) sc_runs_of.nd rfl (Or.inl rfl)) pgs_nil)))) (fun _ _ _ _ _ => pts_nil) (fun _ _ _ _ _ => (pe_tup (pa_cons (pv 1) (pa_cons (pe_ifExp (pt_cmp (pc_isN (pv 2))) pe_non (pe_op op_sub (pv 2) (pv 1))) pa_nil))))))), ?_⟩
  have xl := paired_len hp
  rw [List.length_map] at xl
  refine ⟨_, rfl, a, rfl, ⟨_, SqL.of hxs⟩, fun D hD => ?_⟩
  refine lc_list (K := K) (a := a) (xs := xs) (fun j H2 => ∃ G acc, Snap H [D] G H2 ∧ H2 D = some (.lst acc) ∧ Paired (PrV K G) acc ((Gf.runsM (F.take j)).map so)) ?_ ?_ ?_ ?_
  · exact ⟨H, [], Snap.of (fun z hz => by rw [List.mem_singleton.mp hz]; exact hD) (same_upd hD), upd_same, .nil⟩
  · rintro j H2 _ ⟨G, acc, s, _⟩
    exact SqL.of (s.all _ _ hxs)
  · rintro j x H2 hx ⟨G, acc, s, ha, hpa⟩
    obtain ⟨p0, hp0, t, rfl, ht⟩ := paired_at hp hx
    obtain ⟨p, hpi, rfl⟩ : ∃ p, F[j]? = some p ∧ p0 = so p := by
      rw [List.getElem?_map] at hp0
      cases hq : F[j]? with
      | none => rw [hq] at hp0; cases hp0
      | some p => rw [hq] at hp0; exact ⟨p, rfl, (Option.some.inj hp0).symm⟩
    have jl : j < F.length := (List.getElem?_eq_some_iff.mp hpi).1
    have al := paired_len hpa
    rw [List.length_map] at al
    have al2 : (Gf.runsM (F.take j)).length = j := by unfold Gf.runsM; rw [List.length_map, List.length_take]; omega
    refine ⟨t, _, rfl, sqT_keep (same_ext s.all) ht, rfl, _, _, rfl, _, _, rfl, rfl, rfl, yes_i ?_⟩
    refine ⟨_, rfl, _, rfl, _, rfl, ifF (fun z => by cases z) ⟨_, rfl, _, rfl, _, _, rfl, rfl, (by show 2 ≤ sizeLine; decide), fun t2 ht2 => ?_⟩⟩
    have y1 : D ≠ t2 := ne_of_none ha ht2
    have s2 := (s.add (o := .tup [.int p.1, .int (p.2 - p.1)]) ht2 (fun z hz => by rw [List.mem_singleton.mp hz]; exact y1)).put (d := D) (o := .lst (acc ++ [.ref t2])) (by simp)
    refine ⟨acc, by rw [upd_ne y1]; exact ha, by rw [sizeLine_eq]; omega, _, _, s2, upd_same, ?_⟩
    have e : (Gf.runsM (F.take (j + 1))).map so = (Gf.runsM (F.take j)).map so ++ [(p.1, some (p.2 - p.1))] := by
      rw [take_snoc hpi]
      unfold Gf.runsM
      rw [List.map_append, List.map_append] <;> rfl
    rw [e]
    exact paired_snoc ⟨t2, rfl, SqT.of upd_same⟩ (paired_mono hpa fun _ _ z => z.keep (same_ext (same_upd (s.sub.free ht2))))
  · rintro H2 ⟨G, acc, s, ha, hpa⟩
    rw [xl, List.take_length] at hpa
    exact q H2 D s.all hD ⟨acc, ha, paired_mono hpa fun _ _ z => z.keep s.keep⟩
theorem ok_Room_runs (T : Txt K mg) : MetC P w K mg base 2 838 "runs" (spRuns K) := by
  refine metC_of T.f_Room_runs T.c_Room T.m_Room_runs sc_Room_runs (fun _ _ _ _ _ _ us hl => match us, hl with | [_], _ => rfl) (fun vs H Q E h => by obtain ⟨a, F, rfl, ⟨dx, d, ha, hd⟩, hF, q⟩ := h; rfl) fun cdv A outer s H vs Q E hr h => ?_
  obtain ⟨a, F, rfl, ⟨dx, d, ha, hd⟩, hF, q⟩ := h
  refine ⟨_, (pss_one (ps_ret (pe_cc (ok_runs_of T) hr (by decide) rfl (pa_cons (pe_fld (pv 0) rfl) pa_nil)))), ?_⟩
  exact ⟨_, rfl, _, _, _, _, _, rfl, ha, T.c_Room, T.n_Room_pairs, rfl, d, F, rfl, hd, hF, q⟩
end
end Gt
/-! ## GfK11 -/
set_option Elab.async false
set_option linter.all false
set_option maxRecDepth 100000
set_option maxHeartbeats 4000000
namespace Gt
open PySem PySem.Spec PyProof.Rows L2 Wm GenW
/-! ### runs_from; places -/
def fromM (F : List (Int × Int)) (blk : Int) : List (Int × Int) := F.filterMap fun p => if (if p.1 < blk then blk else p.1) < p.2 then some ((if p.1 < blk then blk else p.1), p.2) else none
theorem clip_from {p : Int × Int} {blk : Int} : Gf.clipM (so p) (blk, none) = (if (if p.1 < blk then blk else p.1) < p.2 then some ((if p.1 < blk then blk else p.1), p.2) else none : Option (Int × Int)).map so := by
  unfold Gf.clipM
  show (if (decide ((if p.1 < blk then blk else p.1) < p.2) && true) = true then some ((if p.1 < blk then blk else p.1), some p.2) else none) = _
  rw [Bool.and_true]
  by_cases c : (if p.1 < blk then blk else p.1) < p.2
  · rw [if_pos (decide_eq_true c), if_pos c] <;> rfl
  · rw [if_neg (fun z => c (of_decide_eq_true z)), if_neg c] <;> rfl
theorem shared_from {blk : Int} : ∀ F : List (Int × Int), Gf.sharedM (F.map so) [(blk, none)] = (fromM F blk).map so
  | [] => rfl
  | p :: F => by
    have ih := shared_from (blk := blk) F
    unfold Gf.sharedM at ih ⊢
    unfold fromM at ih ⊢
    rw [List.map_cons, List.flatMap_cons, ih, List.filterMap_cons (l := F), List.filterMap_cons, clip_from]
    by_cases c : (if p.1 < blk then blk else p.1) < p.2
    · rw [if_pos c] <;> rfl
    · rw [if_neg c] <;> rfl
theorem from_mem {F : List (Int × Int)} {blk : Int} {r : Int × Int} (h : r ∈ Gf.runsM (fromM F blk)) : ∃ p ∈ F, p.1 ≤ r.1 ∧ r.1 + r.2 = p.2 := by
  obtain ⟨q, hq, e⟩ := List.mem_map.mp h
  obtain ⟨p, hp, e2⟩ := List.mem_filterMap.mp hq
  by_cases c : (if p.1 < blk then blk else p.1) < p.2
  · rw [if_pos c] at e2
    have e3 := Option.some.inj e2
    refine ⟨p, hp, ?_⟩
    rw [← e, ← e3]
    show p.1 ≤ (if p.1 < blk then blk else p.1) ∧ (if p.1 < blk then blk else p.1) + (p.2 - (if p.1 < blk then blk else p.1)) = p.2
    split <;> omega
  · rw [if_neg c] at e2
    cases e2
theorem from_len {F : List (Int × Int)} {blk : Int} : (Gf.runsM (fromM F blk)).length ≤ F.length := by
  unfold Gf.runsM fromM
  rw [List.length_map]
  exact List.length_filterMap_le _ _
theorem runs_mem {F : List (Int × Int)} {r : Int × Int} (h : r ∈ Gf.runsM F) : ∃ p ∈ F, p.1 ≤ r.1 ∧ r.1 + r.2 = p.2 := by
  obtain ⟨p, hp, e⟩ := List.mem_map.mp h
  exact ⟨p, hp, by rw [← e]; exact Int.le_refl _, by rw [← e]; show p.1 + (p.2 - p.1) = p.2; omega⟩
def spRF (K : PySem.W.Frag) : SpG := fun vs H cont _ => ∃ (a : Addr) (F : List (Int × Int)) (blk : Int), vs = [.ref a, .int blk] ∧ RoomAt K H a (F.map so) ∧ F.length ≤ 1000 ∧ (0 ≤ blk ∧ blk ≤ 1000000) ∧ ∀ H' xs, Same H H' → Paired (PrV K H') xs ((Gf.runsM (fromM F blk)).map so) → cont xs H'
def spEnough (K : PySem.W.Frag) : Sp := fun vs H Q _ => ∃ (t : Addr) (s l m : Int), vs = [.ref t, .int m] ∧ SqT K H t [.int s, .int l] ∧ Q (.bl (decide (m ≤ l))) H
def spFirstE (K : PySem.W.Frag) : Sp := fun vs H Q _ => ∃ (a : Addr) (R : List (Int × Int)) (m : Int), vs = [.ref a, .int m] ∧ PairsL K H a (R.map so) ∧ ((∀ r ∈ R, r.2 < m) → Q .non H) ∧ (∀ r ∈ R, m ≤ r.2 → Q (.int r.1) H)
def spPlace (K : PySem.W.Frag) : Sp := fun vs H Q _ => ∃ (rule : Str) (a : Addr) (F : List (Int × Int)) (m bh af : Int), vs = [.str rule, .ref a, .int m, .int bh, .int af] ∧ RoomAt K H a (F.map so) ∧ F.length ≤ 1000 ∧ (0 ≤ bh ∧ bh ≤ 1000000) ∧ (0 ≤ af ∧ af ≤ 1000000) ∧
  (∀ H', Same H H' → (∀ p ∈ F, p.2 - p.1 < m) → Q .non H') ∧ (∀ H' s, Same H H' → (∃ p ∈ F, p.1 ≤ s ∧ s + m ≤ p.2) → Q (.int s) H')
def spShortR (K : PySem.W.Frag) : Sp := fun vs H Q _ => ∃ (a : Addr) (F : List (Int × Int)) (m n : Int), vs = [.ref a, .int m, .int n] ∧ RoomAt K H a (F.map so) ∧ F.length ≤ 1000 ∧
  (∀ H', Same H H' → m - (Gf.shortTo m (Gf.runsM F)).2 < n → Q .non H') ∧ (∀ H' d, Same H H' → H d = none → ¬ m - (Gf.shortTo m (Gf.runsM F)).2 < n → PairsL K H' d ((Gf.shortTo m (Gf.runsM F)).1.map so) → Q (.ref d) H')
def spPlaced (K : PySem.W.Frag) : Sp := fun vs H Q _ => ∃ (rule : Str) (a : Addr) (F : List (Int × Int)) (m bh af n : Int), vs = [.str rule, .ref a, .int m, .int bh, .int af, .bl true, .int n] ∧ rule ∈ (["behind", "first", "best", "next"] : List Str) ∧ RoomAt K H a (F.map so) ∧ F.length ≤ 1000 ∧ (∀ p ∈ F, p.1 < p.2) ∧ (0 ≤ bh ∧ bh ≤ 1000000) ∧ (0 ≤ af ∧ af ≤ 1000000) ∧ (1 ≤ n ∧ n ≤ m ∧ m ≤ 1000000) ∧
  (∀ H', Same H H' → Gf.sumP F < n → Q .non H') ∧ (∀ H' d R, Same H H' → H d = none → n ≤ Gf.sumP F → Gf.GiveOk F R → Gf.sumR R = (if m < Gf.sumP F then m else Gf.sumP F) → R ≠ [] → R.length ≤ 1000 → PairsL K H' d (R.map so) → Q (.ref d) H')
theorem short_len {m : Int} : ∀ Rs : List (Int × Int), (Gf.shortTo m Rs).1.length ≤ Rs.length := fun Rs => by
  refine Gf.snoc_ind (p := fun Rs => (Gf.shortTo m Rs).1.length ≤ Rs.length) (Nat.le_refl _) (fun L r ih => ?_) Rs
  rw [Gf.shortTo_snoc, List.length_append, List.length_singleton]
  unfold Gf.shortStep
  split
  · show (_ ++ [_]).length ≤ _
    rw [List.length_append, List.length_singleton]
    omega
  · omega
theorem short_pos {st : List (Int × Int) × Int} {r : Int × Int} (c : 0 < st.2) : Gf.shortStep st r = (st.1 ++ [(r.1, if r.2 < st.2 then r.2 else st.2)], st.2 - (if r.2 < st.2 then r.2 else st.2)) := by
  unfold Gf.shortStep
  rw [if_pos c]
theorem short_neg {st : List (Int × Int) × Int} {r : Int × Int} (c : ¬ 0 < st.2) : Gf.shortStep st r = st := by
  unfold Gf.shortStep
  rw [if_neg c]
theorem so_at {K : PySem.W.Frag} {G : Hp} {xs : List V} {R : List (Int × Int)} {i : Nat} {x : V} (h : Paired (PrV K G) xs (R.map so)) (hx : xs[i]? = some x) : ∃ r t, R[i]? = some r ∧ x = .ref t ∧ SqT K G t [.int r.1, .int r.2] := by
  obtain ⟨p0, hp0, t, rfl, ht⟩ := paired_at h hx
  rw [List.getElem?_map] at hp0
  cases hq : R[i]? with
  | none => rw [hq] at hp0; cases hp0
  | some p =>
    rw [hq] at hp0
    have e := Option.some.inj hp0
    subst e
    exact ⟨p, t, rfl, rfl, ht⟩
section
variable {P : Program} {w : World} {K : PySem.W.Frag} {mg : Str → Option Value} {base : Heap}
theorem ok_is_enough (T : Txt K mg) : CalC P w K mg base 1 "is_enough" (spEnough K) := by
  refine calC_of T.f_is_enough T.g_is_enough sc_is_enough (fun _ _ _ _ _ _ us hl => match us, hl with | [_, _], _ => rfl) (fun vs H Q E h => by obtain ⟨t, st, l, m, rfl, ht, q⟩ := h; rfl) fun cdv A outer s H vs Q E hr h => ?_
  obtain ⟨t, st, l, m, rfl, ht, q⟩ := h
  refine ⟨_, (pss_one (ps_ret (pe_or (pe_cmp (pc_isN (pe_ix (r := rIxT K) ix_tup (pv 0) pe_int (fun _ _ => rfl)))) (pe_one (pe_cmpR op_ge (pe_ix (r := rIxT K) ix_tup (pv 0) pe_int (fun _ _ => rfl)) (pv 1) (nomark _)))))), ?_⟩
  exact ⟨_, rfl, _, _, _, _, rfl, rfl, ht, atI_nat (j := 1) rfl, _, rfl, ifF (fun z => by cases z) ⟨_, rfl, _, _, _, _, rfl, rfl, ht, atI_nat (j := 1) rfl, _, rfl, _, _, rfl, rfl, q⟩⟩
theorem ok_first_enough (T : Txt K mg) : CalC P w K mg base 2 "first_enough" (spFirstE K) := by
  refine calC_of T.f_first_enough T.g_first_enough sc_first_enough (fun _ _ _ _ _ _ us hl => match us, hl with | [_, _], _ => rfl) (fun vs H Q E h => by obtain ⟨a, R, m, rfl, ⟨xs, hxs, hp⟩, q1, q2⟩ := h; rfl) fun cdv A outer s H vs Q E hr h => ?_
  obtain ⟨a, R, m, rfl, ⟨xs, hxs, hp⟩, q1, q2⟩ := h
  refine ⟨_, (pss_cons (ps_for PassesOwn.never rfl (pi_list (pv 0)) (pg_name (i := 2) sc_first_enough.nd rfl (Or.inl rfl))
    (pss_one (ps_if (pt_val (pe_cc (ok_is_enough T) hr (by decide) rfl (pa_cons (pv 2) (pa_cons (pv 1) pa_nil))))
      (pss_one (ps_ret (pe_ix (r := rIxT K) ix_tup (pv 2) pe_int (fun _ _ => rfl))))
      pss_nil)))
  (pss_one (ps_ret pe_non))), ?_⟩
  refine ⟨_, rfl, a, rfl, ⟨_, SqL.of hxs⟩, ?_⟩
  have xl := paired_len hp
  rw [List.length_map] at xl
  refine for_list (K := K) (a := a) (xs := xs) (fun i σ H' => (∃ x2, σ = [some (.ref a), some (.int m), x2]) ∧ H' = H ∧ ∀ r ∈ R.take i, r.2 < m) ?_ ?_ ?_ ?_
  · exact ⟨⟨_, rfl⟩, rfl, fun r h => absurd h (by simp)⟩
  · rintro i σ H1 _ ⟨_, rfl, _⟩
    exact SqL.of hxs
  · rintro i x σ H1 hx ⟨⟨x2, rfl⟩, rfl, hno⟩
    obtain ⟨r, t, hr1, rfl, ht⟩ := so_at hp hx
    refine ⟨_, rfl, _, rfl, t, r.1, r.2, m, rfl, ht, _, rfl, ?_⟩
    refine if2 (fun c => ?_) (fun c => ?_)
    · exact ⟨_, rfl, t, _, _, _, rfl, rfl, ht, atI_nat (j := 0) rfl, q2 r (List.mem_of_getElem? hr1) c⟩
    · refine ⟨⟨_, rfl⟩, rfl, fun r' h => ?_⟩
      rw [take_snoc hr1] at h
      rcases List.mem_append.mp h with z | z
      · exact hno r' z
      · rw [List.mem_singleton.mp z]; omega
  · rintro σ H1 ⟨⟨x2, rfl⟩, rfl, hno⟩
    refine q1 fun r hr => hno r ?_
    rw [xl, List.take_length]
    exact hr
theorem ok_best_enough (T : Txt K mg) : CalC P w K mg base 2 "best_enough" (spFirstE K) := by
  refine calC_of T.f_best_enough T.g_best_enough sc_best_enough (fun _ _ _ _ _ _ us hl => match us, hl with | [_, _], _ => rfl) (fun vs H Q E h => by obtain ⟨a, R, m, rfl, ⟨xs, hxs, hp⟩, q1, q2⟩ := h; rfl) fun cdv A outer s H vs Q E hr h => ?_
  obtain ⟨a, R, m, rfl, ⟨xs, hxs, hp⟩, q1, q2⟩ := h
  refine ⟨_, (pss_cons (ps_set (i := 2) sc_best_enough.nd rfl (Or.inl rfl) pe_non)
  (pss_cons (ps_for PassesOwn.never rfl (pi_list (pv 0)) (pg_name (i := 3) sc_best_enough.nd rfl (Or.inl rfl))
    (pss_one (ps_if (pt_val (pe_cc (ok_is_enough T) hr (by decide) rfl (pa_cons (pv 3) (pa_cons (pv 1) pa_nil))))
      (pss_one (ps_if (PW.pt (pw_or (pt_cmp (pc_isN (pv 2))) (pw_or1 (PW.pt (pw_and (pt_cmp (pc_notN (pe_ix (r := rIxT K) ix_tup (pv 3) pe_int (fun _ _ => rfl)))) (pw_and1 (PW.pt (pw_or (pt_cmp (pc_isN (pe_ix (r := rIxT K) ix_tup (pv 2) pe_int (fun _ _ => rfl)))) (pw_or1 (pt_cmpR op_lt (pe_ix (r := rIxT K) ix_tup (pv 3) pe_int (fun _ _ => rfl)) (pe_ix (r := rIxT K) ix_tup (pv 2) pe_int (fun _ _ => rfl)) (nomark _)))))))))))
        (pss_one (ps_set (i := 2) sc_best_enough.nd rfl (Or.inl rfl) (pv 3)))
        pss_nil))
      pss_nil)))
  (pss_one (ps_ret (pe_ifExp (pt_cmp (pc_isN (pv 2))) pe_non (pe_ix (r := rIxT K) ix_tup (pv 2) pe_int (fun _ _ => rfl))))))), ?_⟩
  refine ⟨_, rfl, a, rfl, ⟨_, SqL.of hxs⟩, ?_⟩
  have xl := paired_len hp
  rw [List.length_map] at xl
  refine for_list (K := K) (a := a) (xs := xs) (fun i σ H' => H' = H ∧ ∃ x3 vb, σ = [some (.ref a), some (.int m), some vb, x3] ∧ ((vb = .non ∧ ∀ r ∈ R.take i, r.2 < m) ∨ ∃ t r, vb = .ref t ∧ r ∈ R ∧ m ≤ r.2 ∧ SqT K H t [.int r.1, .int r.2])) ?_ ?_ ?_ ?_
  · exact ⟨rfl, _, _, rfl, .inl ⟨rfl, fun r h => absurd h (by simp)⟩⟩
  · rintro i σ H1 _ ⟨rfl, _⟩
    exact SqL.of hxs
  · rintro i x σ H1 hx ⟨rfl, x3, vb, rfl, hb⟩
    obtain ⟨r, t, hr1, rfl, ht⟩ := so_at hp hx
    have rm := List.mem_of_getElem? hr1
    refine ⟨_, rfl, _, rfl, t, r.1, r.2, m, rfl, ht, _, rfl, ?_⟩
    refine if2 (fun c => ?_) (fun c => ?_)
    · have new : ∃ x3 vb, ([some (.ref a), some (.int m), some (.ref t), some (.ref t)] : L2.St) = [some (.ref a), some (.int m), some vb, x3] ∧ ((vb = .non ∧ ∀ r ∈ R.take (i + 1), r.2 < m) ∨ ∃ t r, vb = .ref t ∧ r ∈ R ∧ m ≤ r.2 ∧ SqT K H1 t [.int r.1, .int r.2]) := ⟨_, _, rfl, .inr ⟨t, r, rfl, rm, c, ht⟩⟩
      rcases hb with ⟨rfl, hno⟩ | ⟨t0, r0, rfl, m0, c0, ht0⟩
      · exact ⟨_, rfl, _, rfl, ifT rfl (iteT ⟨_, rfl, rfl, new⟩)⟩
      · refine ⟨_, rfl, _, rfl, ifF (fun z => by cases z) ?_⟩
        refine ⟨_, rfl, t, _, _, _, rfl, rfl, ht, atI_nat (j := 1) rfl, _, rfl, ifN (fun z => by cases z) ?_⟩
        refine ⟨_, rfl, t0, _, _, _, rfl, rfl, ht0, atI_nat (j := 1) rfl, _, rfl, ifF (fun z => by cases z) ?_⟩
        refine ⟨_, rfl, t, _, _, _, rfl, rfl, ht, atI_nat (j := 1) rfl, _, rfl, t0, _, _, _, rfl, rfl, ht0, atI_nat (j := 1) rfl, _, _, rfl, rfl, _, rfl, ?_⟩
        refine if2 (fun _ => ⟨_, rfl, rfl, new⟩) (fun _ => ⟨rfl, _, _, rfl, .inr ⟨t0, r0, rfl, m0, c0, ht0⟩⟩)
    · rcases hb with ⟨rfl, hno⟩ | h
      · refine ⟨rfl, _, _, rfl, .inl ⟨rfl, fun r' h => ?_⟩⟩
        rw [take_snoc hr1] at h
        rcases List.mem_append.mp h with z | z
        · exact hno r' z
        · rw [List.mem_singleton.mp z]; omega
      · exact ⟨rfl, _, _, rfl, .inr h⟩
  · rintro σ H1 ⟨rfl, x3, vb, rfl, hb⟩
    rcases hb with ⟨rfl, hno⟩ | ⟨t0, r0, rfl, m0, c0, ht0⟩
    · refine ⟨_, rfl, _, rfl, ifT rfl (q1 fun r hr => hno r ?_)⟩
      rw [xl, List.take_length]
      exact hr
    · exact ⟨_, rfl, _, rfl, ifF (fun z => by cases z) ⟨_, rfl, t0, _, _, _, rfl, rfl, ht0, atI_nat (j := 0) rfl, q2 r0 m0 c0⟩⟩
structure GMet (P : Program) (w : World) (K : PySem.W.Frag) (mg : Str → Option Value) (base : Heap) (k : Nat) (C : Addr) (m : Str) (sp : SpG) : Prop where
  ex : ∃ (f : Addr) (fd : FuncData) (ps : List Str), Cls K C ∧ Meth K C m f ∧ GFn P w K mg base k f fd ps sp ∧ Binds K fd ps []
theorem pe_gml {X : Cx} {k j : Nat} {C : Addr} {m : Str} {sp : SpG} {p pos apos pos' : Pos} {e o : Expr} {es : List Expr} {ta : TE} {t : TA} {pl : Sem Bool} (c : GMet X.prog X.w X.K X.mg X.base k C m sp) (hr : Room j X.A) (hk : k + 3 ≤ j) (he : PE X o ta) (ha : PA X (e :: es) t) (hg : Gl X "list") (hm : X.mg "list" = none)
    (hst : starEach (e :: es) X.env = (false, eval e X.env) :: starEach es X.env := by rfl) (hpl : (backTo pos' (starEach es X.env)).any (·.1) = false := by rfl)
    (ht : eval (.Call (.Attribute o m apos) (e :: es) [] pos') X.env = (do
      let ov ← eval o X.env
      standAt apos.atName
      let (f, first) ← holding [ov] (getMethod ov m pl)
      callWith pos' f first (backTo pos' (starEach (e :: es) X.env)) (backToKw pos' (keywordEach [] X.env))) := by rfl)
    (hs : starEach [.Call (.Attribute o m apos) (e :: es) [] pos'] X.env = (false, eval (.Call (.Attribute o m apos) (e :: es) [] pos') X.env) :: starEach [] X.env := by rfl) :
    PE X (.Call (.Name "list" p) [.Call (.Attribute o m apos) (e :: es) [] pos'] [] pos) (tListG (tMethG C m sp [] E0 ta t)) := by
  obtain ⟨f, fd, ps, hc, hm', Fn, b⟩ := c.ex
  exact pe_listG (k := k) (pgen_meth (pl := pl) he hc hm' Fn (hr.mono (by omega)) b .nil ha hst hpl ht) (fun _ _ _ _ _ _ _ h => by obtain ⟨_, _, _, _, _, _, _, _, _, _, _, _, h⟩ := h; exact h.elim) (fun _ _ _ h => h.elim) (hr.mono hk) hg hm boot_list (by decide) rfl hs
theorem ok_Room_runs_from (T : Txt K mg) : GMet P w K mg base 3 838 "runs_from" (spRF K) := by
  obtain ⟨fd, Fn⟩ := T.f_Room_runs_from
  have hb := Fn.bindsN (ps := ["self", "block"]) (fun _ _ _ _ _ _ us hl => match us, hl with | [_, _], _ => rfl)
  obtain ⟨oc, od, dV, kV, doc, pm, an, cdv, ct, osl, rfl, lk, hcd, _, _⟩ := Fn.ex
  refine ⟨767, _, _, T.c_Room, T.m_Room_runs_from, gfn_of lk hcd sc_Room_runs_from (fun vs H Q E h => by obtain ⟨a, Fs, blk, rfl, _⟩ := h; rfl) fun A outer s H vs Q E pn hr h => ?_, hb⟩
  obtain ⟨a, Fs, blk, rfl, ⟨dx, d, ha1, ha2⟩, hF, hblk, q⟩ := h
  refine ⟨_, gss_cons (gs_ps (ps_if (pt_not (pt_val (pe_cc (ok_is_integer T).c hr (by decide) rfl (pa_cons (pv 1) (pa_cons pe_int (pa_cons (pe_gi rfl T.v_MOST_BLOCK) pa_nil)))))) (pss_one ps_never) pss_nil)) (gss_cons (gs_yieldFrom (yf_lst (pe_cc (ok_runs_of T) hr (by decide) rfl (pa_cons (pe_cc (ok_shared T).c hr (by decide) rfl (pa_cons (pe_fld (pv 0) rfl) (pa_cons (pe_lst (pa_cons (pe_tup (pa_cons (pv 1) (pa_cons pe_non pa_nil))) pa_nil)) pa_nil))) pa_nil))) hr.hd) gss_nil), ?_⟩
  refine ⟨_, rfl, _, _, _, rfl, hblk.1, by omega, true, rfl, iteF ?_⟩
  refine ⟨_, rfl, _, _, _, _, _, rfl, ha1, T.c_Room, T.n_Room_pairs, rfl, _, rfl, (by show 2 ≤ sizeLine; decide), fun t ht => ⟨(by show 1 ≤ sizeLine; decide), fun l hl => ?_⟩⟩
  have tl : t ≠ l := fun z => by rw [← z, upd_same] at hl; cases hl
  have s1 : Same H (upd (upd H t (.tup [.int blk, .non])) l (.lst [.ref t])) := (same_upd ht).trans (same_upd hl)
  refine ⟨d, l, _, [(blk, none)], rfl, ha2.keep (same_ext s1), ⟨_, upd_same, .cons ⟨t, rfl, SqT.of (by rw [upd_ne tl, upd_same] <;> rfl)⟩ .nil⟩, by rw [List.length_map]; omega, by show 1 ≤ 1001; decide, fun H2 z s2 hz => ?_⟩
  rw [shared_from] at hz
  refine ⟨z, _, rfl, hz, ?_, fun H3 y s3 _ hy => ?_⟩
  · have : (fromM Fs blk).length ≤ Fs.length := List.length_filterMap_le _ _
    omega
  · obtain ⟨xs, hxs, hp⟩ := hy
    have xl := paired_len hp
    rw [List.length_map] at xl
    have := from_len (F := Fs) (blk := blk)
    exact ⟨y, xs, rfl, hxs, by rw [sizeLine_eq]; show 0 + xs.length ≤ _; omega, q H3 xs (s1.trans (s2.trans s3)) hp⟩
theorem ok_by_short_runs (T : Txt K mg) : CalC P w K mg base 3 "by_short_runs" (spShortR K) := by
  refine calC_of T.f_by_short_runs T.g_by_short_runs sc_by_short_runs (fun _ _ _ _ _ _ us hl => match us, hl with | [_, _, _], _ => rfl) (fun vs H Q E h => by obtain ⟨a, Fs, m, n, rfl, ha, hF, q1, q2⟩ := h; rfl) fun cdv A outer s H vs Q E hr h => ?_
  obtain ⟨a, Fs, m, n, rfl, ha, hF, q1, q2⟩ := h
  refine ⟨_, (pss_cons (ps_set (i := 3) sc_by_short_runs.nd rfl (Or.inl rfl) (pv 1))
  (pss_cons (ps_set (i := 4) sc_by_short_runs.nd rfl (Or.inl rfl) (pe_lst pa_nil))
  (pss_cons (ps_for PassesOwn.never rfl (pi_list (pe_mtc0 (ok_Room_runs T) hr (by decide) (pv 0))) (pg_tup rfl (pgs_cons (pg_name (i := 5) sc_by_short_runs.nd rfl (Or.inl rfl)) (pgs_cons (pg_name (i := 6) sc_by_short_runs.nd rfl (Or.inl rfl)) pgs_nil)))
    (pss_one (ps_if (pt_cmpR op_gt (pv 3) pe_int (nomark _))
      (C8.pss_cut (ps_set (i := 7) sc_by_short_runs.nd rfl (Or.inl rfl) (pe_ifExp (pt_cmpR op_lt (pv 6) (pv 3) (nomark _)) (pv 6) (pv 3)))
      (pss_cons (ps_expr (pe_bm F.plainAttrs_list F.slot_list_append F.type_list_append mt_append (pv 4) (pa_cons (pe_tup (pa_cons (pv 5) (pa_cons (pv 7) pa_nil))) pa_nil)))
      (pss_one (ps_aug (i := 3) sc_by_short_runs.nd rfl (.inl rfl) (pv 7) ip_sub))))
      pss_nil)))
  (pss_one (ps_ret (pe_ifExp (pt_cmpR op_lt (pe_op op_sub (pv 1) (pv 3)) (pv 2) (nomark _)) pe_non (pv 4))))))), ?_⟩
  obtain ⟨dx, d0, ha1, ha2⟩ := id ha
  refine ⟨_, rfl, (by show 0 ≤ sizeLine; decide), fun fd hfd => ?_⟩
  have e1 : Same H (upd H fd (.lst [])) := same_upd hfd
  refine ⟨_, rfl, a, dx, _, rfl, e1 _ _ ha1, rfl, a, Fs, rfl, ha.keep (same_ext e1), by omega, fun H2 rl s2 hrl0 hrl => ?_⟩
  obtain ⟨xs, hxs, hp⟩ := hrl
  have xl := paired_len hp
  rw [List.length_map] at xl
  have rl1 : (Gf.runsM Fs).length = Fs.length := List.length_map _
  have hf2 := s2 _ _ (upd_same (H := H) (a := fd) (o := .lst []))
  have fr : fd ≠ rl := fun z => by rw [← z, upd_same] at hrl0; cases hrl0
  have back : ∀ {H'}, Same (cutH H2 fd) H' → Same H H' := fun s b u e => s b u (by rw [cut_ne (ne_of_none e hfd)]; exact s2 _ _ (e1 _ _ e))
  refine ⟨rl, rfl, ⟨_, SqL.of hxs⟩, ?_⟩
  have hrc : cutH H2 fd rl = some (.lst xs) := by rw [cut_ne (Ne.symm fr)]; exact hxs
  have hpc : Paired (PrV K (cutH H2 fd)) xs ((Gf.runsM Fs).map so) := paired_mono hp fun v p z => by
    obtain ⟨t, h1, h2⟩ := z
    exact ⟨t, h1, sqT_cutL hf2 h2⟩
  refine for_list (K := K) (a := rl) (xs := xs) (fun i σ H' => (∃ x5 x6 x7, σ = [some (.ref a), some (.int m), some (.int n), some (.int (Gf.shortTo m ((Gf.runsM Fs).take i)).2), some (.ref fd), x5, x6, x7]) ∧ ∃ G acc, Snap (cutH H2 fd) [fd] G H' ∧ H' fd = some (.lst acc) ∧ Paired (PrV K G) acc ((Gf.shortTo m ((Gf.runsM Fs).take i)).1.map so)) ?_ ?_ ?_ ?_
  · exact ⟨⟨_, _, _, rfl⟩, _, [], Snap.of (fun z hz => by rw [List.mem_singleton.mp hz]; exact cut_self) cut_same, hf2, .nil⟩
  · rintro i σ H1 _ ⟨_, G, acc, s, _⟩
    exact SqL.of (s.all _ _ hrc)
  · rintro i x σ H1 hx ⟨⟨x5, x6, x7, rfl⟩, G, acc, s, hacc, hpa⟩
    obtain ⟨r, t, hr1, rfl, ht⟩ := so_at hpc hx
    have il : i < (Gf.runsM Fs).length := (List.getElem?_eq_some_iff.mp hr1).1
    have al := paired_len hpa
    rw [List.length_map] at al
    have sl := short_len (m := m) ((Gf.runsM Fs).take i)
    rw [List.length_take] at sl
    have st : Gf.shortTo m ((Gf.runsM Fs).take (i + 1)) = Gf.shortStep (Gf.shortTo m ((Gf.runsM Fs).take i)) r := by rw [take_snoc hr1, Gf.shortTo_snoc]
    refine ⟨t, _, rfl, sqT_keep (same_ext s.all) ht, rfl, _, _, rfl, _, _, rfl, rfl, ?_⟩
    refine ⟨_, rfl, _, _, rfl, rfl, _, rfl, ?_⟩
    refine if2 (fun c => ?_) (fun c => ?_)
    · refine ⟨fun σ' H' => σ' = [some (.ref a), some (.int m), some (.int n), some (.int (Gf.shortTo m ((Gf.runsM Fs).take i)).2), some (.ref fd), some (.int r.1), some (.int r.2), some (.int (if r.2 < (Gf.shortTo m ((Gf.runsM Fs).take i)).2 then r.2 else (Gf.shortTo m ((Gf.runsM Fs).take i)).2))] ∧ H' = H1, ?_, ?_⟩
      · refine ⟨_, rfl, _, rfl, _, _, rfl, rfl, _, rfl, ?_⟩
        refine if2 (fun c => ⟨_, rfl, ?_, rfl⟩) (fun c => ⟨_, rfl, ?_, rfl⟩)
        · rw [if_pos c] <;> rfl
        · rw [if_neg c] <;> rfl
      · rintro σ' H' ⟨rfl, rfl⟩
        refine ⟨_, rfl, .inl ⟨rfl, acc, SqL.of hacc⟩, _, rfl, _, rfl, (by show 2 ≤ sizeLine; decide), fun t2 ht2 => ?_⟩
        have y1 : fd ≠ t2 := ne_of_none hacc ht2
        have s3 := (s.add (o := .tup [.int r.1, .int (if r.2 < (Gf.shortTo m ((Gf.runsM Fs).take i)).2 then r.2 else (Gf.shortTo m ((Gf.runsM Fs).take i)).2)]) ht2 (fun z hz => by rw [List.mem_singleton.mp hz]; exact y1)).put (d := fd) (o := .lst (acc ++ [.ref t2])) (by simp)
        refine ⟨fd, acc, _, rfl, rfl, by rw [upd_ne y1]; exact hacc, by rw [sizeLine_eq]; omega, ?_⟩
        refine ⟨_, rfl, _, rfl, _, _, rfl, rfl, ?_⟩
        dsimp only
        rw [st, short_pos c]
        refine ⟨⟨_, _, _, rfl⟩, _, _, s3, upd_same, ?_⟩
        rw [List.map_append]
        exact paired_snoc ⟨t2, rfl, SqT.of upd_same⟩ (paired_mono hpa fun _ _ z => z.keep (same_ext (same_upd (s.sub.free ht2))))
    · dsimp only
      rw [st, short_neg c]
      exact ⟨⟨_, _, _, rfl⟩, _, _, s, hacc, hpa⟩
  · rintro σ H1 ⟨⟨x5, x6, x7, rfl⟩, G, acc, s, hacc, hpa⟩
    have eT : (Gf.runsM Fs).take xs.length = Gf.runsM Fs := by rw [xl, List.take_length]
    rw [eT] at hpa ⊢
    refine ⟨_, rfl, _, rfl, _, _, rfl, rfl, _, rfl, _, _, rfl, rfl, _, rfl, ?_⟩
    refine if2 (fun c => q1 H1 (back s.all) c) (fun c => ⟨_, rfl, q2 H1 fd (back s.all) hfd c ⟨acc, hacc, paired_mono hpa fun _ _ z => z.keep s.keep⟩⟩)
theorem ok_place_by_rule (T : Txt K mg) : CalC P w K mg base 7 "place_by_rule" (spPlace K) := by
  refine calC_of T.f_place_by_rule T.g_place_by_rule sc_place_by_rule (fun _ _ _ _ _ _ us hl => match us, hl with | [_, _, _, _, _], _ => rfl) (fun vs H Q E h => by obtain ⟨rule, a, Fs, m, bh, af, rfl, ha, hF, hbh, haf, q1, q2⟩ := h; rfl) fun cdv A outer s H vs Q E hr h => ?_
  obtain ⟨rule, a, Fs, m, bh, af, rfl, ha, hF, hbh, haf, q1, q2⟩ := h
  refine ⟨_, (pss_cons (ps_if (pt_cmpR op_eq (pv 0) pe_str (nomark _))
    (pss_one (ps_ret (pe_cc (ok_best_enough T) hr (by decide) rfl (pa_cons (pe_mtc0 (ok_Room_runs T) hr (by decide) (pv 1)) (pa_cons (pv 2) pa_nil)))))
    pss_nil)
  (pss_cons (ps_set (i := 5) sc_place_by_rule.nd rfl (Or.inl rfl) pe_non)
  (C8.pss_cut (ps_if (pt_cmpR op_eq (pv 0) pe_str (nomark _))
    (pss_one (ps_set (i := 5) sc_place_by_rule.nd rfl (Or.inl rfl) (pe_cc (ok_first_enough T) hr (by decide) rfl (pa_cons (pe_gml (ok_Room_runs_from T) hr (by decide) (pv 1) (pa_cons (pv 4) pa_nil) rfl T.b_list) (pa_cons (pv 2) pa_nil)))))
    pss_nil)
  (C8.pss_cut (ps_if (pt_cmpR op_eq (pv 0) pe_str (nomark _))
    (pss_one (ps_set (i := 5) sc_place_by_rule.nd rfl (Or.inl rfl) (pe_cc (ok_first_enough T) hr (by decide) rfl (pa_cons (pe_lc (own := [("run", 6)]) (g := (gName 6)) rfl sc_place_by_rule.nd (pi_list (pe_gml (ok_Room_runs_from T) hr (by decide) (pv 1) (pa_cons (pv 3) pa_nil) rfl T.b_list)) (blkOk_by (own := [("run", 6)]) (N := ["rule", "free", "many", "behind", "after", "found", "run"]) (sc := defScope s_place_by_rule) (by decide +kernel)) (fun _ _ _ _ _ => (pg_name (i := 6) sc_place_by_rule.nd rfl (Or.inl rfl))) (fun _ _ _ _ _ => pts_one (pt_cmpR op_eq (pe_ix (r := rIxT K) ix_tup (pv 6) pe_int (fun _ _ => rfl)) (pv 3) (nomark _))) (fun _ _ _ _ _ => (pv 6))) (pa_cons (pv 2) pa_nil)))))
    pss_nil)
  (pss_cons (ps_if (pt_cmp (pc_isN (pv 5)))
    (pss_one (ps_ret (pe_cc (ok_first_enough T) hr (by decide) rfl (pa_cons (pe_mtc0 (ok_Room_runs T) hr (by decide) (pv 1)) (pa_cons (pv 2) pa_nil)))))
    pss_nil)
  (pss_one (ps_ret (pv 5)))))))), ?_⟩
  obtain ⟨dx, d0, ha1, ha2⟩ := id ha
  have none_ : (∀ r ∈ Gf.runsM Fs, r.2 < m) → ∀ p ∈ Fs, p.2 - p.1 < m := fun h p hp => h (p.1, p.2 - p.1) (List.mem_map.mpr ⟨p, hp, rfl⟩)
  have some_ : ∀ r ∈ Gf.runsM Fs, m ≤ r.2 → ∃ p ∈ Fs, p.1 ≤ r.1 ∧ r.1 + m ≤ p.2 := fun r hr c => by
    obtain ⟨p, hp, h1, h2⟩ := runs_mem hr
    exact ⟨p, hp, h1, by omega⟩
  have some2 : ∀ blk, ∀ r ∈ Gf.runsM (fromM Fs blk), m ≤ r.2 → ∃ p ∈ Fs, p.1 ≤ r.1 ∧ r.1 + m ≤ p.2 := fun blk r hr c => by
    obtain ⟨p, hp, h1, h2⟩ := from_mem hr
    exact ⟨p, hp, h1, by omega⟩
  refine ⟨_, rfl, rfl, _, rfl, if2 (fun c => ?_) (fun c => ?_)⟩
  · exact ⟨_, rfl, a, dx, _, rfl, ha1, rfl, a, Fs, rfl, ha, by omega, fun H1 z s1 _ hz => ⟨_, rfl, z, _, m, rfl, hz, fun h => q1 H1 s1 (none_ h), fun r hr c => q2 H1 r.1 s1 (some_ r hr c)⟩⟩
  · refine ⟨fun σ' H' => ∃ fv x6, σ' = [some (.str rule), some (.ref a), some (.int m), some (.int bh), some (.int af), some fv, x6] ∧ Same H H' ∧ (fv = .non ∨ ∃ st, fv = .int st ∧ ∃ p ∈ Fs, p.1 ≤ st ∧ st + m ≤ p.2), ?_, ?_⟩
    · refine ⟨_, rfl, rfl, _, rfl, if2 (fun c => ?_) (fun c => ?_)⟩
      · refine ⟨_, rfl, a, dx, _, rfl, ha1, rfl, _, rfl, a, Fs, af, rfl, ha, hF, haf, fun H1 xs s1 hp p hp0 => ?_⟩
        have s2 : Same H1 (upd H1 p (.lst xs)) := same_upd hp0
        exact ⟨_, rfl, p, _, m, rfl, ⟨xs, upd_same, paired_mono hp fun _ _ z => z.keep (same_ext s2)⟩, fun h => ⟨_, _, rfl, s1.trans s2, .inl rfl⟩, fun r hr c => ⟨_, _, rfl, s1.trans s2, .inr ⟨r.1, rfl, some2 af r hr c⟩⟩⟩
      · exact ⟨_, _, rfl, Same.refl _, .inl rfl⟩
    · rintro σ' H' ⟨fv, x6, rfl, s1, hfv⟩
      refine ⟨fun σ' H' => ∃ fv x6, σ' = [some (.str rule), some (.ref a), some (.int m), some (.int bh), some (.int af), some fv, x6] ∧ Same H H' ∧ (fv = .non ∨ ∃ st, fv = .int st ∧ ∃ p ∈ Fs, p.1 ≤ st ∧ st + m ≤ p.2), ?_, ?_⟩
      · refine ⟨_, rfl, rfl, _, rfl, if2 (fun c => ?_) (fun c => ?_)⟩
        · refine ⟨_, rfl, a, dx, _, rfl, s1 _ _ ha1, rfl, _, rfl, a, Fs, bh, rfl, ha.keep (same_ext s1), hF, hbh, fun H1 xs s2 hp p hp0 => ?_⟩
          have s3 : Same H1 (upd H1 p (.lst xs)) := same_upd hp0
          have hp3 : Paired (PrV K (upd H1 p (.lst xs))) xs ((Gf.runsM (fromM Fs bh)).map so) := paired_mono hp fun _ _ z => z.keep (same_ext s3)
          have hp3l : upd H1 p (.lst xs) p = some (.lst xs) := upd_same
          have xl := paired_len hp
          rw [List.length_map] at xl
          have fl := from_len (F := Fs) (blk := bh)
          generalize upd H1 p (.lst xs) = H3 at s3 hp3 hp3l
          refine ⟨p, rfl, ⟨_, SqL.of hp3l⟩, fun D hD => ?_⟩
          refine lc_list (K := K) (a := p) (xs := xs) (fun j H4 => ∃ (G : Hp) (acc : List V) (R : List (Int × Int)), Snap H3 [D] G H4 ∧ H4 D = some (.lst acc) ∧ Paired (PrV K G) acc (R.map so) ∧ (∀ r ∈ R, r ∈ Gf.runsM (fromM Fs bh)) ∧ acc.length ≤ j) ?_ ?_ ?_ ?_
          · exact ⟨H3, [], [], Snap.of (fun z hz => by rw [List.mem_singleton.mp hz]; exact hD) (same_upd hD), upd_same, .nil, fun r h => absurd h (by simp), Nat.le_refl _⟩
          · rintro j H4 _ ⟨G, acc, R, s4, _⟩
            exact SqL.of (s4.all _ _ hp3l)
          · rintro j x H4 hx ⟨G, acc, R, s4, hacc, hpa, hR, hl⟩
            obtain ⟨r, t, hr1, rfl, ht⟩ := so_at hp3 hx
            have jl : j < xs.length := (List.getElem?_eq_some_iff.mp hx).1
            have ht4 := sqT_keep (same_ext s4.all) ht
            refine ⟨rfl, _, rfl, t, _, _, _, rfl, rfl, ht4, atI_nat (j := 0) rfl, _, rfl, rfl, _, rfl, if2 (fun c => ?_) (fun c => ?_)⟩
            · refine ⟨_, rfl, acc, hacc, by rw [sizeLine_eq]; omega, G, acc ++ [.ref t], R ++ [r], s4.put (by simp), upd_same, ?_, fun r' h => ?_, by rw [List.length_append, List.length_singleton]; omega⟩
              · rw [List.map_append]
                exact paired_snoc ⟨t, rfl, sqT_keep (same_ext s4.old) ht⟩ hpa
              · rcases List.mem_append.mp h with z | z
                · exact hR r' z
                · rw [List.mem_singleton.mp z]; exact List.mem_of_getElem? hr1
            · exact ⟨G, acc, R, s4, hacc, hpa, hR, by omega⟩
          · rintro H4 ⟨G, acc, R, s4, hacc, hpa, hR, hl⟩
            have s5 : Same H H4 := s1.trans (s2.trans (s3.trans s4.all))
            exact ⟨_, rfl, D, R, m, rfl, ⟨acc, hacc, paired_mono hpa fun _ _ z => z.keep s4.keep⟩, fun h => ⟨_, _, rfl, s5, .inl rfl⟩, fun r hr c => ⟨_, _, rfl, s5, .inr ⟨r.1, rfl, some2 bh r (hR r hr) c⟩⟩⟩
        · exact ⟨_, _, rfl, s1, hfv⟩
      · rintro σ' H' ⟨fv, x6, rfl, s1, hfv⟩
        rcases hfv with rfl | ⟨st, rfl, hst⟩
        · exact ⟨_, rfl, _, rfl, ifT rfl ⟨_, rfl, a, dx, _, rfl, s1 _ _ ha1, rfl, a, Fs, rfl, ha.keep (same_ext s1), by omega, fun H1 z s2 _ hz => ⟨_, rfl, z, _, m, rfl, hz, fun h => q1 H1 (s1.trans s2) (none_ h), fun r hr c => q2 H1 r.1 (s1.trans s2) (some_ r hr c)⟩⟩⟩
        · exact ⟨_, rfl, _, rfl, ifF (fun z => by cases z) ⟨_, rfl, q2 H' st s1 hst⟩⟩
theorem fn_placed (T : Txt K mg) {fd : FuncData} (F : FunD K "placed" "placed" (defArgs s_placed) (defBody s_placed) (defScope s_placed) [] [("short", .bl true), ("need", .int 1)] 661 fd) : FnOk P w K mg base CX0 8 661 fd ["rule", "free", "many", "behind", "after", "short", "need"] (spPlaced K) := by
  refine okC F sc_placed (fun vs H Q E h => by obtain ⟨rule, a, Fs, m, bh, af, n, rfl, hrule, ha, hF, hpos, hbh, haf, hn, q1, q2⟩ := h; rfl) fun cdv A outer s H vs Q E hr h => ?_
  obtain ⟨rule, a, Fs, m, bh, af, n, rfl, hrule, ha, hF, hpos, hbh, haf, hn, q1, q2⟩ := h
  refine ⟨_, (pss_cons (ps_if (PW.pt (pw_or (pt_not (pt_val (pe_callB call_isB rfl T.b_isinstance (by decide +kernel) (pa_cons (pv 0) (pa_cons (pe_bltn (v := .ty "str") rfl T.b_str (by decide +kernel) rfl) pa_nil))))) (pw_or1 (pt_cmpR op_notIn_seq (pv 0) (pe_gr rfl T.v_RULES) (by with_unfolding_all rfl)))))
    (pss_one ps_never)
    pss_nil)
  (pss_cons (ps_expr (pe_cc (ok_check_integer T) hr (by decide) rfl (pa_cons (pv 2) (pa_cons pe_int (pa_cons (pe_gi rfl T.v_MOST) pa_nil)))))
  (pss_cons (ps_expr (pe_cc (ok_check_integer T) hr (by decide) rfl (pa_cons (pv 3) (pa_cons pe_int (pa_cons (pe_gi rfl T.v_MOST) pa_nil)))))
  (pss_cons (ps_expr (pe_cc (ok_check_integer T) hr (by decide) rfl (pa_cons (pv 4) (pa_cons pe_int (pa_cons (pe_gi rfl T.v_MOST) pa_nil)))))
  (pss_cons (ps_expr (pe_cc (ok_check_integer T) hr (by decide) rfl (pa_cons (pv 6) (pa_cons pe_int (pa_cons (pv 2) pa_nil)))))
  (pss_cons (ps_set (i := 7) sc_placed.nd rfl (Or.inl rfl) (pe_cc (ok_place_by_rule T) hr (by decide) rfl (pa_cons (pv 0) (pa_cons (pv 1) (pa_cons (pv 2) (pa_cons (pv 3) (pa_cons (pv 4) pa_nil)))))))
  (pss_cons (ps_if (pt_cmp (pc_notN (pv 7)))
    (pss_one (ps_ret (pe_lst (pa_cons (pe_tup (pa_cons (pv 7) (pa_cons (pv 2) pa_nil))) pa_nil))))
    pss_nil)
  (pss_one (ps_ret (pe_ifExp (pt_val (pv 5)) (pe_cc (ok_by_short_runs T) hr (by decide) rfl (pa_cons (pv 1) (pa_cons (pv 2) (pa_cons (pv 6) pa_nil)))) pe_non)))))))))), ?_⟩
  have hin : (!inV (.str rule) [.str "behind", .str "first", .str "best", .str "next"]) = false := by
    have hr4 : rule = "behind" ∨ rule = "first" ∨ rule = "best" ∨ rule = "next" := by simpa using hrule
    rcases hr4 with e | e | e | e <;> rw [e] <;> decide +kernel
  refine ⟨_, rfl, _, _, true, rfl, isi_str, true, rfl, iteF ?_⟩
  refine ⟨_, rfl, _, _, rfl, .inr (T.t_RULES H), rfl, by decide +kernel, _, rfl, ?_⟩
  show if (!inV (.str rule) [.str "behind", .str "first", .str "best", .str "next"]) = true then _ else _
  rw [hin]
  refine iteF ?_
  refine ⟨_, rfl, _, _, _, rfl, by omega, by omega, ?_⟩
  refine ⟨_, rfl, _, _, _, rfl, by omega, by omega, ?_⟩
  refine ⟨_, rfl, _, _, _, rfl, by omega, by omega, ?_⟩
  refine ⟨_, rfl, _, rfl, _, _, _, rfl, hn.1, hn.2.1, ?_⟩
  refine ⟨_, rfl, _, rfl, _, rfl, _, rfl, _, rfl, rule, a, Fs, m, bh, af, rfl, ha, hF, hbh, haf, fun H1 s1 hno => ?_, fun H1 st s1 hst => ?_⟩
  · refine ⟨_, rfl, _, rfl, ifNN rfl ?_⟩
    obtain ⟨g1, g2, g3, g4⟩ := Gf.short_ok (many := m) (by omega) hpos
    refine ⟨_, rfl, true, rfl, iteT ⟨_, rfl, _, rfl, _, rfl, a, Fs, m, n, rfl, ha.keep (same_ext s1), hF, fun H2 s2 c => ?_, fun H2 d s2 hdn c hd => ?_⟩⟩
    · refine q1 H2 (s1.trans s2) ?_
      rw [g4] at c
      split at c <;> omega
    · have rl1 : (Gf.runsM Fs).length = Fs.length := List.length_map _
      refine q2 H2 d _ (s1.trans s2) (s1.free hdn) ?_ g1 (by rw [g2, g4]) (fun z => ?_) (Nat.le_trans (short_len _) (by omega)) hd
      · rw [g4] at c
        split at c <;> omega
      · rw [z, Gf.sumR_nil] at g2
        omega
  · refine ⟨_, rfl, _, rfl, ifN (fun z => by cases z) ⟨_, rfl, _, rfl, (by show 2 ≤ sizeLine; decide), fun t ht => ⟨(by show 1 ≤ sizeLine; decide), fun l hl => ?_⟩⟩⟩
    obtain ⟨pp, hp, h1, h2⟩ := hst
    have tl : t ≠ l := fun z => by rw [← z, upd_same] at hl; cases hl
    have sm := Gf.sumP_mem hpos hp
    refine q2 _ l [(st, m)] (s1.trans ((same_upd ht).trans (same_upd hl))) ((s1.trans (same_upd ht)).free hl) (by omega) (Gf.give_one hp h1 h2 (by omega)) ?_ (by simp) (by show 1 ≤ 1000; decide) ⟨_, upd_same, .cons ⟨t, rfl, SqT.of (by rw [upd_ne tl, upd_same] <;> rfl)⟩ .nil⟩
    rw [Gf.sumR_cons, Gf.sumR_nil]
    show m + 0 = _
    split <;> omega
theorem ok_placed (T : Txt K mg) : CalK P w K mg base 8 "placed" 3 ["behind", "after", "short", "need"] (fun vs zs => vs ++ ([] ++ zs)) (spPlaced K) := by
  obtain ⟨fd, Fn⟩ := T.f_placed
  obtain ⟨mv, b⟩ := FunD.kbinds0 (ps := ["rule", "free", "many", "behind", "after", "short", "need"]) Fn 3 ["behind", "after", "short", "need"] [] (fun vs mz zs => vs ++ (mz ++ zs)) (by simp) (by simp) (fun r1 r2 r3 => r1.append (r2.append r3)) (fun D doc pm an cdv ct us mv ws h1 h2 h3 => match us, mv, ws, h1, h2, h3 with | [_, _, _], [], [_, _, _, _], _, _, _ => rfl)
  refine ⟨_, fd, _, _, fn_placed T Fn, T.g_placed, Fn.kp, b⟩
end
end Gt
/-! ## GfD1 -/
set_option Elab.async false
set_option linter.all false
set_option maxRecDepth 100000
set_option maxHeartbeats 4000000
namespace Gt
open PySem PySem.Spec PyProof.Rows L2 Wm GenW
theorem upd_swap {H : Hp} {a b : Addr} {o u : HO} (h : b ≠ a) : upd (upd H a o) b u = upd (upd H b u) a o := by
  funext c
  by_cases hb : c = b
  · rw [hb, upd_same, upd_ne h, upd_same]
  · rw [upd_ne hb]
    by_cases ha : c = a
    · rw [ha, upd_same, upd_same]
    · rw [upd_ne ha, upd_ne ha, upd_ne hb]
/-! ### files and disks -/
structure FSt where
  nm : Str
  size : Int
  hold : Int
  runs : List (Int × Int)
structure DSt where
  b : Gf.Bk
  n : Int
  rule : Str
  after : Int
  fs : List FSt
structure DA where
  dx : Addr
  fd : Addr
  bk : Addr
  fa : List (Addr × Addr)
def fileFs (d : Addr) (nm : Str) (size hold : Int) (rl : Addr) : List (Str × V) := [("disk", .ref d), ("name", .str nm), ("size", .int size), ("hold", .int hold), ("waiting", .int 0), ("is_open", .bl true), ("runs_held", .ref rl)]
def diskFs (bk fd : Addr) (rule : Str) (n after : Int) : List (Str × V) := [("own_book", .ref bk), ("rule", .str rule), ("size", .int n), ("short", .bl true), ("back", .bl false), ("late", .bl false), ("after", .int after), ("files", .ref fd)]
def FileAt (K : PySem.W.Frag) (H : Hp) (d : Addr) (a : Addr × Addr) (f : FSt) : Prop := (∃ dx, H a.1 = some (.ins 956 dx (fileFs d f.nm f.size f.hold a.2))) ∧ PairsL K H a.2 (f.runs.map so)
def filesKv (fs : List FSt) (fa : List (Addr × Addr)) : List (Key × V) := List.zipWith (fun f a => (.inr f.nm, .ref a.1)) fs fa
structure DiskAt (K : PySem.W.Frag) (H : Hp) (d : Addr) (A : DA) (S : DSt) : Prop where
  ins : H d = some (.ins 1105 A.dx (diskFs A.bk A.fd S.rule S.n S.after))
  book : BookAt K H A.bk S.b
  dict : H A.fd = some (.dK (filesKv S.fs A.fa))
  files : Paired (FileAt K H d) A.fa S.fs
  nd1 : (A.fa.map (·.1)).Nodup
  nd2 : (A.fa.map (·.2)).Nodup
theorem FileAt.keep {K : PySem.W.Frag} {H H' : Hp} {d : Addr} {a : Addr × Addr} {f : FSt} (e : LamX.ExtN H H') (h : FileAt K H d a f) : FileAt K H' d a f := by
  obtain ⟨⟨dx, h1⟩, h2⟩ := h
  exact ⟨⟨dx, keep_ins e h1⟩, h2.keep e⟩
theorem DiskAt.keep {K : PySem.W.Frag} {H H' : Hp} {d : Addr} {A : DA} {S : DSt} (e : LamX.ExtN H H') (h : DiskAt K H d A S) : DiskAt K H' d A S :=
  ⟨keep_ins e h.ins, h.book.keep e, keep_dK e h.dict, paired_mono h.files fun _ _ z => z.keep e, h.nd1, h.nd2⟩
def foot (d : Addr) (A : DA) : List Addr := d :: A.fd :: (A.fa.map (·.1) ++ A.fa.map (·.2))
structure DiskF (K : PySem.W.Frag) (H0 H : Hp) (d : Addr) (A : DA) (S : DSt) : Prop where
  disk : DiskAt K H d A S
  out : ∀ b ∈ foot d A, H0 b = none
  ext : LamX.ExtN H0 H
  tab : LamX.Tabs T0 H
  nt : ∀ b ps, H0 b ≠ some (.tbl ps)
theorem DiskF.keep {K : PySem.W.Frag} {H0 H H' : Hp} {d : Addr} {A : DA} {S : DSt} (e : LamX.ExtN H H') (t : LamX.Tabs T0 H') (h : DiskF K H0 H d A S) : DiskF K H0 H' d A S :=
  ⟨h.disk.keep e, h.out, h.ext.trans e, t, h.nt⟩
theorem DiskF.new {K : PySem.W.Frag} {H0 H : Hp} {d : Addr} {A : DA} {S : DSt} {x : Addr} (h : DiskF K H0 H d A S) (hx : H x = none) : H0 x = none := by
  cases hz : H0 x with
  | none => rfl
  | some o =>
    have := h.ext x o hz fun ps e => h.nt x ps (by rw [hz, e])
    rw [hx] at this
    cases this
theorem DiskF.same {K : PySem.W.Frag} {H0 H H' : Hp} {d : Addr} {A : DA} {S : DSt} (e : Same H H') (h : DiskF K H0 H d A S) : DiskF K H0 H' d A S := h.keep (same_ext e) (h.tab.ext e)
def allR (S : DSt) : List (Int × Int) := S.fs.flatMap (·.runs)
def absS (S : DSt) : List Gf.FS := S.fs.map fun f => (f.size, f.hold)
structure DOk (S : DSt) : Prop where
  ap : Gf.Apart S.n (allR S)
  sum : ∀ f ∈ S.fs, Gf.sumR f.runs = f.hold
  sz : ∀ f ∈ S.fs, 0 ≤ f.size ∧ f.size ≤ f.hold
  tot : Gf.holds (absS S) ≤ S.n
  af : 0 ≤ S.after ∧ S.after ≤ 1000000
  n1 : 1 ≤ S.n ∧ S.n ≤ 300
  bk : 1 ≤ S.b.first ∧ S.b.first ≤ S.b.roof ∧ S.b.roof ≤ 1000
  rule : S.rule ∈ (["behind", "first", "best", "next"] : List Str)
  nd : (S.fs.map (·.nm)).Nodup
  len : S.fs.length ≤ 8
theorem sqT_cutN {K : PySem.W.Frag} {H : Hp} {d t : Addr} {xs : List V} (h1 : ∀ ys, H d ≠ some (.tup ys)) (h2 : ∀ o ys, H d ≠ some (.frz o (.tup ys))) (h : SqT K H t xs) : SqT K (cutH H d) t xs := by
  rcases h with (h | ⟨o, h⟩) | h
  · exact .inl (.inl (by rw [cut_ne (fun z => by rw [z] at h; exact h1 _ h)]; exact h))
  · exact .inl (.inr ⟨o, by rw [cut_ne (fun z => by rw [z] at h; exact h2 _ _ h)]; exact h⟩)
  · exact .inr h
/-! ### a file's own defs -/
def spFileI : Sp := fun vs H Q _ => ∃ (x dx d : Addr) (nm : Str), vs = [.ref x, .ref d, .str nm] ∧ H x = some (.ins 956 dx []) ∧ ∀ rl, H rl = none → Q .non (upd (upd H rl (.lst [])) x (.ins 956 dx (fileFs d nm 0 0 rl)))
def spIdle : Sp := fun vs H Q _ => ∃ (a dx d rl : Addr) (nm : Str) (s h : Int), vs = [.ref a] ∧ H a = some (.ins 956 dx (fileFs d nm s h rl)) ∧ Q (.int (h - s)) H
def spPieces (K : PySem.W.Frag) : Sp := fun vs H Q _ => ∃ (a dx d rl : Addr) (nm : Str) (s h : Int) (R : List (Int × Int)), vs = [.ref a] ∧ H a = some (.ins 956 dx (fileFs d nm s h rl)) ∧ PairsL K H rl (R.map so) ∧ ∀ H' l, Same H H' → H l = none → PairsL K H' l (R.map so) → Q (.ref l) H'
def spPut (K : PySem.W.Frag) : Sp := fun vs H Q _ => ∃ (a dx d rl rs : Addr) (nm : Str) (s h : Int) (L R : List (Int × Int)), vs = [.ref a, .ref rs] ∧ H a = some (.ins 956 dx (fileFs d nm s h rl)) ∧ PairsL K H rl (L.map so) ∧ PairsL K H rs (R.map so) ∧ rs ≠ rl ∧ L.length ≤ 1000 ∧ R.length ≤ 1000 ∧
  ∀ H', H' a = some (.ins 956 dx (fileFs d nm s (h + Gf.sumR R) rl)) → PairsL K H' rl ((Gf.putM L R).map so) → (∀ b o, H b = some o → b ≠ a → b ≠ rl → H' b = some o) → Q .non H'
section
variable {P : Program} {w : World} {K : PySem.W.Frag} {mg : Str → Option Value} {base : Heap}
theorem ok_File_init (T : Txt K mg) : MakC P w K mg base 1 "File" 956 spFileI := by
  refine makC_of T.f_File_init T.k_File T.g_File sc_File_init (fun _ _ _ _ _ _ us hl => match us, hl with | [_, _, _], _ => rfl) (fun vs H Q E h => by obtain ⟨x, dx, d, nm, rfl, hx, q⟩ := h; rfl) fun cdv A outer s H vs Q E hr h => ?_
  obtain ⟨x, dx, d, nm, rfl, hx, q⟩ := h
  refine ⟨_, (pss_cons (ps_fld (pv 0) (pv 1) rfl)
  (pss_cons (ps_fld (pv 0) (pv 2) rfl)
  (pss_cons (ps_fld (pv 0) pe_int rfl)
  (pss_cons (ps_fld (pv 0) pe_int rfl)
  (pss_cons (ps_fld (pv 0) pe_int rfl)
  (pss_cons (ps_fld (pv 0) pe_bl rfl)
  (pss_one (ps_fld (pv 0) (pe_lst pa_nil) rfl)))))))), ?_⟩
  refine ⟨_, rfl, _, rfl, _, _, _, _, rfl, hx, T.c_File, T.n_File_disk, (by show 0 < 1000; decide), ?_⟩
  refine ⟨_, rfl, _, rfl, _, _, _, _, rfl, upd_same, T.c_File, T.n_File_name, (by show 1 < 1000; decide), ?_⟩
  refine ⟨_, rfl, _, _, _, _, rfl, upd_same, T.c_File, T.n_File_size, (by show 2 < 1000; decide), ?_⟩
  refine ⟨_, rfl, _, _, _, _, rfl, upd_same, T.c_File, T.n_File_hold, (by show 3 < 1000; decide), ?_⟩
  refine ⟨_, rfl, _, _, _, _, rfl, upd_same, T.c_File, T.n_File_waiting, (by show 4 < 1000; decide), ?_⟩
  refine ⟨_, rfl, _, _, _, _, rfl, upd_same, T.c_File, T.n_File_is_open, (by show 5 < 1000; decide), ?_⟩
  refine ⟨(by show 0 ≤ sizeLine; decide), fun rl hrl => ?_⟩
  have xr : x ≠ rl := fun z => by rw [← z, upd_same] at hrl; cases hrl
  refine ⟨_, rfl, _, _, _, _, rfl, by rw [upd_ne xr, upd_same], T.c_File, T.n_File_runs_held, (by show 6 < 1000; decide), ?_⟩
  have hr0 : H rl = none := by
    have := hrl
    simp only [upd_upd] at this
    rw [upd_ne (Ne.symm xr)] at this
    exact this
  have e : ∀ o1 o2 : HO, upd (upd (upd (upd (upd (upd (upd (upd H x (o1)) x o1) x o1) x o1) x o1) x o1) rl (.lst [])) x o2 = upd (upd H rl (.lst [])) x o2 := fun o1 o2 => by
    simp only [upd_upd]
    rw [upd_swap (Ne.symm xr), upd_upd]
  have e2 : ∀ o1 o2 : HO, upd (upd (upd H x o1) rl (.lst [])) x o2 = upd (upd H rl (.lst [])) x o2 := fun o1 o2 => by rw [upd_swap (Ne.symm xr), upd_upd]
  simp only [upd_upd]
  rw [e2]
  exact q rl hr0
theorem ok_File_idle (T : Txt K mg) : PrpW P w K mg base 1 956 "idle" spIdle := by
  refine prpW_of T.f_File_idle T.c_File T.p_File_idle sc_File_idle (fun _ _ _ _ _ _ us hl => match us, hl with | [_], _ => rfl) (fun vs H Q E h => by obtain ⟨a, dx, d, rl, nm, st, h, rfl, ha, q⟩ := h; rfl) fun cdv A outer s H vs Q E c pn hw hr h => ?_
  obtain ⟨a, dx, d, rl, nm, st, h, rfl, ha, q⟩ := h
  refine ⟨_, (pss_one (ps_ret (pe_op op_sub (pe_fld (pv 0) rfl) (pe_fld (pv 0) rfl)))), ?_⟩
  exact ⟨_, rfl, _, _, _, _, _, rfl, ha, T.c_File, T.n_File_hold, rfl, _, rfl, _, _, _, _, _, rfl, ha, T.c_File, T.n_File_size, rfl, _, _, rfl, rfl, q⟩
theorem ok_File_pieces (T : Txt K mg) : MetW P w K mg base 1 956 "pieces" (spPieces K) := by
  refine metW_of T.f_File_pieces T.c_File T.m_File_pieces sc_File_pieces (fun _ _ _ _ _ _ us hl => match us, hl with | [_], _ => rfl) (fun vs H Q E h => by obtain ⟨a, dx, d, rl, nm, st, h, R, rfl, ha, ⟨xs, hxs, hp⟩, q⟩ := h; rfl) fun cdv A outer s H vs Q E c pn hw hr h => ?_
  obtain ⟨a, dx, d, rl, nm, st, h, R, rfl, ha, ⟨xs, hxs, hp⟩, q⟩ := h
  refine ⟨_, (pss_one (ps_ret (pe_callTy call_list_of rfl T.b_list (by decide +kernel) (pa_cons (pe_fld (pv 0) rfl) pa_nil)))), ?_⟩
  refine ⟨_, rfl, _, _, _, _, _, rfl, ha, T.c_File, T.n_File_runs_held, rfl, _, xs, rfl, .inl (SqL.of hxs), fun l hl => ?_⟩
  exact q _ l (same_upd hl) hl ⟨xs, upd_same, paired_mono hp fun _ _ z => z.keep (same_ext (same_upd hl))⟩
theorem ok_File_put_behind (T : Txt K mg) : MetC P w K mg base 1 956 "put_behind" (spPut K) := by
  refine metC_of T.f_File_put_behind T.c_File T.m_File_put_behind sc_File_put_behind (fun _ _ _ _ _ _ us hl => match us, hl with | [_, _], _ => rfl) (fun vs H Q E h => by obtain ⟨a, dx, d, rl, rs, nm, st, h, L, R, rfl, ha, ⟨ls, hls, hlp⟩, ⟨xs, hxs, hp⟩, hne, hLl, hRl, q⟩ := h; rfl) fun cdv A outer s H vs Q E hr h => ?_
  obtain ⟨a, dx, d, rl, rs, nm, st, h, L, R, rfl, ha, ⟨ls, hls, hlp⟩, ⟨xs, hxs, hp⟩, hne, hLl, hRl, q⟩ := h
  refine ⟨_, (pss_one (ps_for PassesOwn.never rfl (pi_list (pv 1)) (pg_tup rfl (pgs_cons (pg_name (i := 2) sc_File_put_behind.nd rfl (Or.inl rfl)) (pgs_cons (pg_name (i := 3) sc_File_put_behind.nd rfl (Or.inl rfl)) pgs_nil)))
    (pss_cons (ps_fldaug (pv 0) (pv 3) in_add)
    (pss_one (ps_if (PW.pt (pw_and (pt_cmpR op_gt (pe_callB call_len_seq rfl T.b_len (by decide +kernel) (pa_cons (pe_fld (pv 0) rfl) pa_nil)) pe_int (nomark _)) (pw_and1 (pt_cmpR op_eq (pe_callB (cr_sumT rfl) rfl T.b_sum (by decide +kernel) (pa_cons (pe_ix (r := rIxL K) ix_list (pe_fld (pv 0) rfl) (pe_un un_neg pe_int) (fun _ _ => rfl)) pa_nil)) (pv 2) (nomark _)))))
      (pss_one (ps_asg (pe_tup (pa_cons (pe_ix (r := rIxT K) ix_tup (pe_ix (r := rIxL K) ix_list (pe_fld (pv 0) rfl) (pe_un un_neg pe_int) (fun _ _ => rfl)) pe_int (fun _ _ => rfl)) (pa_cons (pe_op op_add (pe_ix (r := rIxT K) ix_tup (pe_ix (r := rIxL K) ix_list (pe_fld (pv 0) rfl) (pe_un un_neg pe_int) (fun _ _ => rfl)) pe_int (fun _ _ => rfl)) (pv 3)) pa_nil))) (pg_sub (pe_fld (pv 0) rfl) (pe_un un_neg pe_int) set_list)))
      (pss_one (ps_expr (pe_bm F.plainAttrs_list F.slot_list_append F.type_list_append mt_append (pe_fld (pv 0) rfl) (pa_cons (pe_tup (pa_cons (pv 2) (pa_cons (pv 3) pa_nil))) pa_nil))))))))), ?_⟩
  have xl := paired_len hp
  rw [List.length_map] at xl
  have ll := paired_len hlp
  rw [List.length_map] at ll
  have ar : a ≠ rl := fun z => by rw [z, hls] at ha; cases ha
  have as_ : a ≠ rs := fun z => by rw [z, hxs] at ha; cases ha
  have gt : ∀ {t : Addr} {ys : List V}, SqT K H t ys → SqT K (cutH (cutH H a) rl) t ys := fun hq => by
    refine sqT_cutN (fun ys z => ?_) (fun o ys z => ?_) (sqT_cutN (fun ys z => ?_) (fun o ys z => ?_) hq)
    · rw [cut_ne (Ne.symm ar), hls] at z; cases z
    · rw [cut_ne (Ne.symm ar), hls] at z; cases z
    · rw [ha] at z; cases z
    · rw [ha] at z; cases z
  have hrs : cutH (cutH H a) rl rs = some (.lst xs) := by rw [cut_ne hne, cut_ne (Ne.symm as_)]; exact hxs
  have pr : ∀ {v : V} {p : Int × Option Int}, PrV K H v p → PrV K (cutH (cutH H a) rl) v p := fun z => by
    obtain ⟨t, h1, h2⟩ := z
    exact ⟨t, h1, gt h2⟩
  have hp0 := paired_mono hp fun _ _ z => pr z
  have hl0 := paired_mono hlp fun _ _ z => pr z
  refine ⟨_, rfl, rs, rfl, ⟨_, SqL.of hxs⟩, ?_⟩
  refine for_list (K := K) (a := rs) (xs := xs) (fun i σ H' => (∃ x2 x3, σ = [some (.ref a), some (.ref rs), x2, x3]) ∧ ∃ (G : Hp) (acc : List V), Snap (cutH (cutH H a) rl) [a, rl] G H' ∧ H' a = some (.ins 956 dx (fileFs d nm st (h + Gf.sumR (R.take i)) rl)) ∧ H' rl = some (.lst acc) ∧ Paired (PrV K G) acc ((Gf.putM L (R.take i)).map so)) ?_ ?_ ?_ ?_
  · refine ⟨⟨_, _, rfl⟩, _, ls, Snap.of (fun z hz => ?_) (cut_same.trans cut_same), ?_, hls, hl0⟩
    · rcases List.mem_cons.mp hz with e | hz
      · rw [e, cut_ne ar]; exact cut_self
      · rw [List.mem_singleton.mp hz]; exact cut_self
    · have e : h + Gf.sumR (R.take 0) = h := by rw [List.take_zero, Gf.sumR_nil]; omega
      rw [e]
      exact ha
  · rintro i σ H1 _ ⟨_, G, acc, s, _⟩
    exact SqL.of (s.all _ _ hrs)
  · rintro i x σ H1 hx ⟨⟨x2, x3, rfl⟩, G, acc, s, hA, hacc, hpa⟩
    obtain ⟨r, t, hr1, rfl, ht⟩ := so_at hp0 hx
    have il : i < R.length := (List.getElem?_eq_some_iff.mp hr1).1
    have al0 := paired_len hpa
    rw [List.length_map] at al0
    have psz := (Gf.put_ok L (R.take i)).size
    rw [List.length_take] at psz
    have ht1 := sqT_keep (same_ext s.all) ht
    have sm : h + Gf.sumR (R.take (i + 1)) = h + Gf.sumR (R.take i) + r.2 := by rw [take_snoc hr1, Gf.sumR_app, Gf.sumR_cons, Gf.sumR_nil]; omega
    have pm : Gf.putM L (R.take (i + 1)) = Gf.putStep (Gf.putM L (R.take i)) r := by rw [take_snoc hr1, Gf.putM_snoc]
    refine ⟨t, _, rfl, ht1, rfl, _, _, rfl, _, _, rfl, rfl, ?_⟩
    refine ⟨_, rfl, _, _, _, _, _, rfl, hA, T.c_File, T.n_File_hold, rfl, _, rfl, _, _, rfl, rfl, _, _, hA, (by show 7 < 1000; decide), ?_⟩
    have s2 := s.put (d := a) (o := .ins 956 dx (fileFs d nm st (h + Gf.sumR (R.take (i + 1))) rl)) (by simp)
    have hA0 : upd H1 a (.ins 956 dx (putF "hold" (V.int (h + Gf.sumR (R.take i) + r.2)) (fileFs d nm st (h + Gf.sumR (R.take i)) rl))) = upd H1 a (.ins 956 dx (fileFs d nm st (h + Gf.sumR (R.take (i + 1))) rl)) := by rw [sm] <;> rfl
    rw [hA0]
    have hA2 : upd H1 a (.ins 956 dx (fileFs d nm st (h + Gf.sumR (R.take (i + 1))) rl)) a = some (.ins 956 dx (fileFs d nm st (h + Gf.sumR (R.take (i + 1))) rl)) := upd_same
    have hacc2 : upd H1 a (.ins 956 dx (fileFs d nm st (h + Gf.sumR (R.take (i + 1))) rl)) rl = some (.lst acc) := by rw [upd_ne (Ne.symm ar)]; exact hacc
    clear hA hacc hA0
    generalize upd H1 a (.ins 956 dx (fileFs d nm st (h + Gf.sumR (R.take (i + 1))) rl)) = H2 at s2 hA2 hacc2
    have hA := hA2
    have hacc := hacc2
    have app : Gf.putStep (Gf.putM L (R.take i)) r = Gf.putM L (R.take i) ++ [r] → ∀ t3, H2 t3 = none → ∃ H5, H5 = upd (upd H2 t3 (.tup [.int r.1, .int r.2])) rl (.lst (acc ++ [.ref t3])) ∧ upd H2 t3 (.tup [.int r.1, .int r.2]) rl = some (.lst acc) ∧ ∃ (G : Hp) (acc : List V), Snap (cutH (cutH H a) rl) [a, rl] G H5 ∧ H5 a = some (.ins 956 dx (fileFs d nm st (h + Gf.sumR (R.take (i + 1))) rl)) ∧ H5 rl = some (.lst acc) ∧ Paired (PrV K G) acc ((Gf.putM L (R.take (i + 1))).map so) := fun hs t3 ht3 => by
      have y1 : rl ≠ t3 := ne_of_none hacc ht3
      have y2 : a ≠ t3 := ne_of_none hA ht3
      have s5 := (s2.add (o := .tup [.int r.1, .int r.2]) ht3 (by intro z hz; simp only [List.mem_cons, List.mem_nil_iff, or_false] at hz; rcases hz with e | e <;> rw [e] <;> assumption)).put (d := rl) (o := .lst (acc ++ [.ref t3])) (by simp)
      refine ⟨_, rfl, by rw [upd_ne y1]; exact hacc, _, _, s5, by rw [upd_ne ar, upd_ne y2]; exact hA, upd_same, ?_⟩
      rw [pm, hs, List.map_append]
      exact paired_snoc ⟨t3, rfl, SqT.of upd_same⟩ (paired_mono hpa fun _ _ z => z.keep (same_ext (same_upd (s2.sub.free ht3))))
    refine ⟨_, rfl, _, _, _, _, _, rfl, hA, T.c_File, T.n_File_runs_held, rfl, _, _, rfl, .inl (SqL.of hacc), _, _, rfl, rfl, _, rfl, ?_⟩
    rcases List.eq_nil_or_concat (Gf.putM L (R.take i)) with hF | ⟨F0, p0, hF⟩
    · have a0 : acc = [] := List.eq_nil_of_length_eq_zero (by rw [al0, hF] <;> rfl)
      refine ifF (by rw [a0]; decide) (iteF ?_)
      refine ⟨_, rfl, _, _, _, _, _, rfl, hA, T.c_File, T.n_File_runs_held, rfl, .inl ⟨rfl, acc, SqL.of hacc⟩, _, rfl, _, rfl, (by show 2 ≤ sizeLine; decide), fun t3 ht3 => ?_⟩
      obtain ⟨H5, e5, h1, h2⟩ := app (by rw [hF] <;> rfl) t3 ht3
      refine ⟨rl, acc, _, rfl, rfl, h1, by rw [sizeLine_eq]; omega, ⟨_, _, rfl⟩, ?_⟩
      rw [e5] at h2
      exact h2
    · rw [List.concat_eq_append] at hF
      have al : acc.length = F0.length + 1 := by rw [al0, hF, List.length_append, List.length_singleton]
      rw [hF] at hpa
      obtain ⟨v0, hv0, t0, rfl, ht0⟩ := paired_at' (i := F0.length) (b := so p0) hpa (by rw [List.map_append, List.getElem?_append_right (by rw [List.length_map]; exact Nat.le_refl _), List.length_map, Nat.sub_self] <;> rfl)
      have ht4 := sqT_keep s2.keep ht0
      refine ifT (by omega) ?_
      refine ⟨_, rfl, _, _, _, _, _, rfl, hA, T.c_File, T.n_File_runs_held, rfl, _, rfl, rl, acc, _, .ref t0, rfl, rfl, SqL.of hacc, atI_end al hv0, t0, [p0.1, p0.2], rfl, ht4, _, rfl, rfl, _, rfl, ?_⟩
      refine if2 (fun c => ?_) (fun c => ?_)
      · have c1 : p0.1 + p0.2 = r.1 := by
          have := V.int.inj c
          simp only [List.sum_cons, List.sum_nil] at this
          omega
        refine ⟨_, rfl, _, _, _, _, _, rfl, hA, T.c_File, T.n_File_runs_held, rfl, _, rfl, rl, acc, _, .ref t0, rfl, rfl, SqL.of hacc, atI_end al hv0, t0, _, _, _, rfl, rfl, ht4, atI_nat (j := 0) rfl, _, rfl, _, _, _, _, _, rfl, hA, T.c_File, T.n_File_runs_held, rfl, _, rfl, rl, acc, _, .ref t0, rfl, rfl, SqL.of hacc, atI_end al hv0, t0, _, _, _, rfl, rfl, ht4, atI_nat (j := 1) rfl, _, rfl, _, _, rfl, rfl, (by show 2 ≤ sizeLine; decide), fun t3 ht3 => ?_⟩
        have y1 : rl ≠ t3 := ne_of_none hacc ht3
        have y2 : a ≠ t3 := ne_of_none hA ht3
        have s5 := (s2.add (o := .tup [.int p0.1, .int (p0.2 + r.2)]) ht3 (by intro z hz; simp only [List.mem_cons, List.mem_nil_iff, or_false] at hz; rcases hz with e | e <;> rw [e] <;> assumption)).put (d := rl) (o := .lst (acc.set F0.length (.ref t3))) (by simp)
        refine ⟨_, rfl, _, _, _, _, _, rfl, by rw [upd_ne y2]; exact hA, T.c_File, T.n_File_runs_held, rfl, _, rfl, rl, acc, _, F0.length, rfl, rfl, by rw [upd_ne y1]; exact hacc, ixN_last al, ⟨_, _, rfl⟩, _, _, s5, by rw [upd_ne ar, upd_ne y2]; exact hA, upd_same, ?_⟩
        rw [pm, hF, Gf.put_snoc, if_pos c1, ← set_so (p := p0)]
        exact paired_set ⟨t3, rfl, SqT.of upd_same⟩ _ (paired_mono hpa fun _ _ z => z.keep (same_ext (same_upd (s2.sub.free ht3))))
      · have c1 : ¬ p0.1 + p0.2 = r.1 := fun z => c (by
          have e : ([p0.1, p0.2] : List Int).sum = p0.1 + p0.2 := by simp
          rw [e, z])
        refine ⟨_, rfl, _, _, _, _, _, rfl, hA, T.c_File, T.n_File_runs_held, rfl, .inl ⟨rfl, acc, SqL.of hacc⟩, _, rfl, _, rfl, (by show 2 ≤ sizeLine; decide), fun t3 ht3 => ?_⟩
        obtain ⟨H5, e5, h1, h2⟩ := app (by rw [hF, Gf.put_snoc, if_neg c1]) t3 ht3
        refine ⟨rl, acc, _, rfl, rfl, h1, by rw [sizeLine_eq]; omega, ⟨_, _, rfl⟩, ?_⟩
        rw [e5] at h2
        exact h2
  · rintro σ H1 ⟨⟨x2, x3, rfl⟩, G, acc, s, hA, hacc, hpa⟩
    rw [xl, List.take_length] at hpa hA
    exact q H1 hA ⟨acc, hacc, paired_mono hpa fun _ _ z => z.keep s.keep⟩ fun b o hb h1 h2 => s.all b o (by rw [cut_ne h2, cut_ne h1]; exact hb)
end
end Gt
/-! ## GfD2 -/
set_option Elab.async false
set_option linter.all false
set_option maxRecDepth 100000
set_option maxHeartbeats 4000000
namespace Gt
open PySem PySem.Spec PyProof.Rows L2 Wm GenW
/-! ### disks: made, names, free -/
theorem sqT_put {K : PySem.W.Frag} {H : Hp} {r t : Addr} {o : HO} {xs : List V} (h1 : ∀ ys, H r ≠ some (.tup ys)) (h2 : ∀ o ys, H r ≠ some (.frz o (.tup ys))) (h : SqT K H t xs) : SqT K (upd H r o) t xs := by
  rcases h with (h | ⟨o', h⟩) | h
  · exact .inl (.inl (by rw [upd_ne (fun z => by rw [z] at h; exact h1 _ h)]; exact h))
  · exact .inl (.inr ⟨o', by rw [upd_ne (fun z => by rw [z] at h; exact h2 _ _ h)]; exact h⟩)
  · exact .inr h
theorem PrV.putL {K : PySem.W.Frag} {H : Hp} {r : Addr} {ys : List V} {o : HO} {v : V} {p : Int × Option Int} (hr : H r = some (.lst ys)) (h : PrV K H v p) : PrV K (upd H r o) v p := by
  obtain ⟨t, h1, h2⟩ := h
  exact ⟨t, h1, sqT_put (fun ys z => by rw [hr] at z; cases z) (fun o ys z => by rw [hr] at z; cases z) h2⟩
theorem BookAt.putI {K : PySem.W.Frag} {H : Hp} {x a dx : Addr} {fs : List (Str × V)} {o : HO} {b : Gf.Bk} (hx : H x = some (.ins 1105 dx fs)) (h : BookAt K H a b) : BookAt K (upd H x o) a b := by
  obtain ⟨dy, t, h1, h2, h3⟩ := h
  refine ⟨dy, t, ?_, sqT_put (fun ys z => by rw [hx] at z; cases z) (fun o ys z => by rw [hx] at z; cases z) h2, h3⟩
  rw [upd_ne (fun z => by rw [z, hx] at h1; cases h1)]
  exact h1
theorem runs_count : ∀ {L : List (Int × Int)}, (∀ r ∈ L, 1 ≤ r.2) → (L.length : Int) ≤ Gf.sumR L
  | [], _ => Int.le_refl _
  | r :: L, h => by
    rw [Gf.sumR_cons, List.length_cons]
    have h1 := h r List.mem_cons_self
    have h2 := runs_count fun q hq => h q (List.mem_cons_of_mem _ hq)
    omega
theorem all_sum : ∀ {fs : List FSt}, (∀ f ∈ fs, Gf.sumR f.runs = f.hold) → Gf.sumR (fs.flatMap (·.runs)) = Gf.holds (fs.map fun f => (f.size, f.hold))
  | [], _ => rfl
  | f :: fs, h => by
    rw [List.flatMap_cons, Gf.sumR_app, all_sum fun g hg => h g (List.mem_cons_of_mem _ hg), h f List.mem_cons_self]
    unfold Gf.holds
    simp
theorem DOk.count {S : DSt} (o : DOk S) : (allR S).length ≤ 300 := by
  have h1 := runs_count o.ap.len
  have h2 : Gf.sumR (allR S) = Gf.holds (absS S) := all_sum o.sum
  have := o.tot
  have := o.n1
  omega
theorem free_perm {n : Int} {R R' F : List (Int × Int)} (p : R.Perm R') (h : Gf.FreeOk n R' F) : Gf.FreeOk n R F := ⟨h.pos, by rw [Gf.sumR_perm p]; exact h.sum, fun x => by rw [Gf.cntR_perm p]; exact h.cnt x⟩
theorem kv_keys {K : PySem.W.Frag} {H : Hp} {d : Addr} : ∀ {fs : List FSt} {fa : List (Addr × Addr)}, Paired (FileAt K H d) fa fs → (filesKv fs fa).map (fun kv => kV kv.1) = fs.map fun f => V.str f.nm
  | _, _, .nil => rfl
  | f :: fs, a :: fa, .cons _ t => by
    show kV (.inr f.nm) :: (filesKv fs fa).map (fun kv => kV kv.1) = _
    rw [kv_keys t] <;> rfl
theorem kv_vals {K : PySem.W.Frag} {H : Hp} {d : Addr} : ∀ {fs : List FSt} {fa : List (Addr × Addr)}, Paired (FileAt K H d) fa fs → (filesKv fs fa).map (·.2) = fa.map fun a => V.ref a.1
  | _, _, .nil => rfl
  | f :: fs, a :: fa, .cons _ t => by
    show V.ref a.1 :: (filesKv fs fa).map (·.2) = _
    rw [kv_vals t] <;> rfl
theorem kv_none {K : PySem.W.Frag} {H : Hp} {d : Addr} {nm : Str} : ∀ {fs : List FSt} {fa : List (Addr × Addr)}, Paired (FileAt K H d) fa fs → nm ∉ fs.map (·.nm) → valV (filesKv fs fa) (.inr nm) = none
  | _, _, .nil, _ => rfl
  | f :: fs, a :: fa, .cons _ t, h => by
    show valV ((Sum.inr f.nm, V.ref a.1) :: filesKv fs fa) (.inr nm) = none
    rw [valV_neg (fun z : (Sum.inr f.nm : Key) = Sum.inr nm => h (by rw [← Sum.inr.inj z]; exact List.mem_cons_self))]
    exact kv_none t fun z => h (List.mem_cons_of_mem _ z)
theorem kv_some {K : PySem.W.Frag} {H : Hp} {d : Addr} {f : FSt} {a : Addr × Addr} : ∀ {fs : List FSt} {fa : List (Addr × Addr)} {j : Nat}, Paired (FileAt K H d) fa fs → (fs.map (·.nm)).Nodup → fs[j]? = some f → fa[j]? = some a → valV (filesKv fs fa) (.inr f.nm) = some (.ref a.1)
  | _, _, _, .nil, _, h, _ => by simp at h
  | g :: fs, c :: fa, 0, .cons _ t, _, h1, h2 => by
    have e1 := Option.some.inj h1
    have e2 := Option.some.inj h2
    subst e1
    subst e2
    exact valV_pos rfl
  | g :: fs, c :: fa, j + 1, .cons _ t, nd, h1, h2 => by
    obtain ⟨n1, n2⟩ := List.nodup_cons.mp nd
    have h1' : fs[j]? = some f := h1
    show valV ((Sum.inr g.nm, V.ref c.1) :: filesKv fs fa) (.inr f.nm) = _
    rw [valV_neg (fun z : (Sum.inr g.nm : Key) = Sum.inr f.nm => n1 (List.mem_map.mpr ⟨f, List.mem_of_getElem? h1', (Sum.inr.inj z).symm⟩))]
    exact kv_some t n2 h1' h2
def spCheckD : Sp := fun vs H Q _ => ∃ (rule : Str) (n : Int) (a b c : Bool), vs = [.str rule, .int n, .bl a, .bl b, .bl c] ∧ rule ∈ (["behind", "first", "best", "next"] : List Str) ∧ (1 ≤ n ∧ n ≤ 300) ∧ ∀ H', Same H H' → Q .non H'
def spDiskI (K : PySem.W.Frag) : Sp := fun vs H Q _ => ∃ (x dx bk : Addr) (b : Gf.Bk) (rule : Str) (n : Int), vs = [.ref x, .ref bk, .str rule, .int n, .bl true, .bl false, .bl false] ∧ H x = some (.ins 1105 dx []) ∧ BookAt K H bk b ∧ (1 ≤ b.first ∧ b.first ≤ b.roof ∧ b.roof ≤ 1000) ∧ rule ∈ (["behind", "first", "best", "next"] : List Str) ∧ (1 ≤ n ∧ n ≤ 300) ∧
  ∀ H' bk' fd, (∀ c o, H c = some o → c ≠ x → H' c = some o) → H fd = none → H' x = some (.ins 1105 dx (diskFs bk' fd rule n 0)) → BookAt K H' bk' b → H' fd = some (.dK []) → Q .non H'
def spNames (K : PySem.W.Frag) : Sp := fun vs H Q _ => ∃ (d : Addr) (A : DA) (S : DSt), vs = [.ref d] ∧ DiskAt K H d A S ∧ ∀ l, H l = none → Q (.ref l) (upd H l (.lst (S.fs.map fun f => V.str f.nm)))
def spFree (K : PySem.W.Frag) : Sp := fun vs H Q _ => ∃ (d : Addr) (A : DA) (S : DSt), vs = [.ref d] ∧ DiskAt K H d A S ∧ DOk S ∧ LamX.Tabs T0 H ∧ ∀ H' z Fr, LamX.ExtN H H' → LamX.Tabs T0 H' → Gf.FreeOk S.n (allR S) Fr → Fr.length ≤ 1000 → RoomAt K H' z (Fr.map so) → Q (.ref z) H'
def spIn (K : PySem.W.Frag) : Sp := fun vs H Q _ => ∃ (d : Addr) (A : DA) (S : DSt) (nm : Str), vs = [.ref d, .str nm] ∧ DiskAt K H d A S ∧ (nm ∈ S.fs.map (·.nm) → Q (.bl true) H) ∧ (nm ∉ S.fs.map (·.nm) → Q (.bl false) H) ∧ (S.fs.map (·.nm)).Nodup
def spGet (K : PySem.W.Frag) : Sp := fun vs H Q _ => ∃ (d : Addr) (A : DA) (S : DSt) (nm : Str) (j : Nat) (f : FSt) (a : Addr × Addr), vs = [.ref d, .str nm] ∧ DiskAt K H d A S ∧ (S.fs.map (·.nm)).Nodup ∧ S.fs[j]? = some f ∧ A.fa[j]? = some a ∧ f.nm = nm ∧ Q (.ref a.1) H
theorem rule_in {rule : Str} (h : rule ∈ (["behind", "first", "best", "next"] : List Str)) : (!inV (.str rule) [.str "behind", .str "first", .str "best", .str "next"]) = false := by
  have hr4 : rule = "behind" ∨ rule = "first" ∨ rule = "best" ∨ rule = "next" := by simpa using h
  rcases hr4 with e | e | e | e <;> rw [e] <;> decide +kernel
section
variable {P : Program} {w : World} {K : PySem.W.Frag} {mg : Str → Option Value} {base : Heap}
theorem ok_check_disk (T : Txt K mg) : CalC P w K mg base 2 "check_disk" spCheckD := by
  refine calC_of T.f_check_disk T.g_check_disk sc_check_disk (fun _ _ _ _ _ _ us hl => match us, hl with | [_, _, _, _, _], _ => rfl) (fun vs H Q E h => by obtain ⟨rule, n, a, b, c, rfl, hrule, hn, q⟩ := h; rfl) fun cdv A outer s H vs Q E hr h => ?_
  obtain ⟨rule, n, a, b, c, rfl, hrule, hn, q⟩ := h
  refine ⟨_, (pss_cons (ps_if (PW.pt (pw_or (pt_not (pt_val (pe_callB call_isB rfl T.b_isinstance (by decide +kernel) (pa_cons (pv 0) (pa_cons (pe_bltn (v := .ty "str") rfl T.b_str (by decide +kernel) rfl) pa_nil))))) (pw_or1 (pt_cmpR op_notIn_seq (pv 0) (pe_gr rfl T.v_RULES) (by with_unfolding_all rfl)))))
    (pss_one ps_never)
    pss_nil)
  (pss_cons (ps_if (PW.pt (pw_and (pt_cmp (pc_notN (pv 1))) (pw_and1 (pt_not (pt_val (pe_cc (ok_is_integer T).c hr (by decide) rfl (pa_cons (pv 1) (pa_cons pe_int (pa_cons (pe_gi rfl T.v_MOST_BLOCKS_disks) pa_nil)))))))))
    (pss_one ps_never)
    pss_nil)
  (pss_one (ps_for PassesOwn.never rfl (pi_tup (pe_tup (pa_cons (pe_tup (pa_cons pe_str (pa_cons (pv 2) pa_nil))) (pa_cons (pe_tup (pa_cons pe_str (pa_cons (pv 3) pa_nil))) (pa_cons (pe_tup (pa_cons pe_str (pa_cons (pv 4) pa_nil))) pa_nil))))) (pg_tup rfl (pgs_cons (pg_name (i := 5) sc_check_disk.nd rfl (Or.inl rfl)) (pgs_cons (pg_name (i := 6) sc_check_disk.nd rfl (Or.inl rfl)) pgs_nil)))
    (pss_one (ps_if (pt_not (pt_val (pe_callB call_isB rfl T.b_isinstance (by decide +kernel) (pa_cons (pv 6) (pa_cons (pe_bltn (v := .ty "bool") rfl T.b_bool (by decide +kernel) rfl) pa_nil)))))
      (pss_one ps_never)
      pss_nil)))))), ?_⟩
  refine ⟨_, rfl, _, _, true, rfl, isi_str, true, rfl, iteF ?_⟩
  refine ⟨_, rfl, _, _, rfl, .inr (T.t_RULES H), rfl, by decide +kernel, _, rfl, ?_⟩
  show if (!inV (.str rule) [.str "behind", .str "first", .str "best", .str "next"]) = true then _ else _
  rw [rule_in hrule]
  refine iteF ?_
  refine ⟨_, rfl, _, rfl, ifN (fun z => by cases z) ⟨_, rfl, _, _, _, rfl, hn.1, by omega, true, rfl, iteF ?_⟩⟩
  refine ⟨_, rfl, (by show 2 ≤ sizeLine; decide), fun p1 h1 => ⟨_, rfl, (by show 2 ≤ sizeLine; decide), fun p2 h2 => ⟨_, rfl, (by show 2 ≤ sizeLine; decide), fun p3 h3 => ⟨(by show 3 ≤ sizeLine; decide), fun p4 h4 => ?_⟩⟩⟩⟩
  have s4 : Same H _ := (same_upd h1).trans ((same_upd h2).trans ((same_upd h3).trans (same_upd (o := .tup [.ref p1, .ref p2, .ref p3]) h4)))
  have g1 : SqT K (upd (upd (upd (upd H p1 (.tup [.str "short", .bl a])) p2 (.tup [.str "back", .bl b])) p3 (.tup [.str "late", .bl c])) p4 (.tup [.ref p1, .ref p2, .ref p3])) p1 [.str "short", .bl a] := SqT.of (((same_upd h2).trans ((same_upd h3).trans (same_upd h4))) _ _ upd_same)
  have g2 : SqT K (upd (upd (upd (upd H p1 (.tup [.str "short", .bl a])) p2 (.tup [.str "back", .bl b])) p3 (.tup [.str "late", .bl c])) p4 (.tup [.ref p1, .ref p2, .ref p3])) p2 [.str "back", .bl b] := SqT.of (((same_upd h3).trans (same_upd h4)) _ _ upd_same)
  have g3 : SqT K (upd (upd (upd (upd H p1 (.tup [.str "short", .bl a])) p2 (.tup [.str "back", .bl b])) p3 (.tup [.str "late", .bl c])) p4 (.tup [.ref p1, .ref p2, .ref p3])) p3 [.str "late", .bl c] := SqT.of ((same_upd h4) _ _ upd_same)
  have g4 : SqT K (upd (upd (upd (upd H p1 (.tup [.str "short", .bl a])) p2 (.tup [.str "back", .bl b])) p3 (.tup [.str "late", .bl c])) p4 (.tup [.ref p1, .ref p2, .ref p3])) p4 [.ref p1, .ref p2, .ref p3] := SqT.of upd_same
  refine ⟨p4, rfl, ⟨_, g4⟩, ?_⟩
  generalize (upd (upd (upd (upd H p1 (.tup [.str "short", .bl a])) p2 (.tup [.str "back", .bl b])) p3 (.tup [.str "late", .bl c])) p4 (.tup [.ref p1, .ref p2, .ref p3])) = H4 at s4 g1 g2 g3 g4
  have each : ∀ (i : Nat) (x : V), ([.ref p1, .ref p2, .ref p3] : List V)[i]? = some x → ∃ t s z, x = .ref t ∧ SqT K H4 t [.str s, .bl z] := fun i x hx => by
    match i, hx with
    | 0, hx => exact ⟨p1, _, _, (Option.some.inj hx).symm, g1⟩
    | 1, hx => exact ⟨p2, _, _, (Option.some.inj hx).symm, g2⟩
    | 2, hx => exact ⟨p3, _, _, (Option.some.inj hx).symm, g3⟩
  refine for_tup (K := K) (a := p4) (xs := [.ref p1, .ref p2, .ref p3]) (fun i σ H' => (∃ x5 x6, σ = [some (.str rule), some (.int n), some (.bl a), some (.bl b), some (.bl c), x5, x6]) ∧ H' = H4) ?_ ?_ ?_ ?_
  · exact ⟨⟨_, _, rfl⟩, rfl⟩
  · rintro i σ H1 _ ⟨_, rfl⟩
    exact g4
  · rintro i x σ H1 hx ⟨⟨x5, x6, rfl⟩, rfl⟩
    obtain ⟨t, s, z, rfl, ht⟩ := each i x hx
    refine ⟨t, _, rfl, ht, rfl, _, _, rfl, _, _, rfl, rfl, ?_⟩
    exact ⟨_, rfl, _, _, true, rfl, isi_bool, true, rfl, iteF ⟨⟨_, _, rfl⟩, rfl⟩⟩
  · rintro σ H1 ⟨⟨x5, x6, rfl⟩, rfl⟩
    exact q H1 s4
theorem fn_Disk_init (T : Txt K mg) {fd : FuncData} (F : FunD K "__init__" "Disk.__init__" (defArgs s_Disk_init) (defBody s_Disk_init) (defScope s_Disk_init) [] [("rule", .str "first"), ("size", .non), ("short", .bl true), ("back", .bl false), ("late", .bl false)] 982 fd) : FnOk P w K mg base CX0 7 982 fd ["self", "book", "rule", "size", "short", "back", "late"] (spDiskI K) := by
  refine okC F sc_Disk_init (fun vs H Q E h => by obtain ⟨x, dx, bk, b, rule, n, rfl, hx, hb, ok, hrule, hn, q⟩ := h; rfl) fun cdv A outer s H vs Q E hr h => ?_
  obtain ⟨x, dx, bk, b, rule, n, rfl, hx, hb, ok, hrule, hn, q⟩ := h
  refine ⟨_, (pss_cons (ps_expr (pe_cc (ok_check_disk T) hr (by decide) rfl (pa_cons (pv 2) (pa_cons (pv 3) (pa_cons (pv 4) (pa_cons (pv 5) (pa_cons (pv 6) pa_nil)))))))
  (pss_cons (ps_fld (pv 0) (pe_mtc0 (ok_Book_twin T) hr (by decide) (pv 1)) rfl)
  (pss_cons (ps_fld (pv 0) (pv 2) rfl)
  (pss_cons (ps_fld (pv 0) (pv 3) rfl)
  (pss_cons (ps_fld (pv 0) (pv 4) rfl)
  (pss_cons (ps_fld (pv 0) (pv 5) rfl)
  (pss_cons (ps_fld (pv 0) (pv 6) rfl)
  (pss_cons (ps_fld (pv 0) pe_int rfl)
  (pss_one (ps_fld (pv 0) pe_dnewK rfl)))))))))), ?_⟩
  refine ⟨_, rfl, _, rfl, _, rfl, _, rfl, _, rfl, rule, n, true, false, false, rfl, hrule, hn, fun H1 s1 => ?_⟩
  obtain ⟨dy, t, hb1, hb2⟩ := hb.keep (same_ext s1)
  refine ⟨_, rfl, bk, dy, _, rfl, hb1, rfl, bk, b, rfl, ⟨dy, t, hb1, hb2⟩, ⟨ok.1, by omega, ok.2.1, ok.2.2⟩, fun H2 bk' s2 hbn hb' => ?_⟩
  have hx2 : H2 x = some (.ins 1105 dx []) := s2 _ _ (s1 _ _ hx)
  refine ⟨_, rfl, _, _, _, _, rfl, hx2, T.c_Disk, T.n_Disk_own_book, (by show 0 < 1000; decide), ?_⟩
  refine ⟨_, rfl, _, rfl, _, _, _, _, rfl, upd_same, T.c_Disk, T.n_Disk_rule, (by show 1 < 1000; decide), ?_⟩
  refine ⟨_, rfl, _, rfl, _, _, _, _, rfl, upd_same, T.c_Disk, T.n_Disk_size, (by show 2 < 1000; decide), ?_⟩
  refine ⟨_, rfl, _, rfl, _, _, _, _, rfl, upd_same, T.c_Disk, T.n_Disk_short, (by show 3 < 1000; decide), ?_⟩
  refine ⟨_, rfl, _, rfl, _, _, _, _, rfl, upd_same, T.c_Disk, T.n_Disk_back, (by show 4 < 1000; decide), ?_⟩
  refine ⟨_, rfl, _, rfl, _, _, _, _, rfl, upd_same, T.c_Disk, T.n_Disk_late, (by show 5 < 1000; decide), ?_⟩
  refine ⟨_, rfl, _, _, _, _, rfl, upd_same, T.c_Disk, T.n_Disk_after, (by show 6 < 1000; decide), ?_⟩
  refine fun fd hfd => ?_
  have xf : x ≠ fd := fun z => by rw [← z, upd_same] at hfd; cases hfd
  refine ⟨_, rfl, _, _, _, _, rfl, by rw [upd_ne xf, upd_same], T.c_Disk, T.n_Disk_files, (by show 7 < 1000; decide), ?_⟩
  have hf0 : H2 fd = none := by
    have := hfd
    simp only [upd_upd] at this
    rw [upd_ne (Ne.symm xf)] at this
    exact this
  have e2 : ∀ o1 o2 : HO, upd (upd (upd H2 x o1) fd (.dK [])) x o2 = upd (upd H2 fd (.dK [])) x o2 := fun o1 o2 => by rw [upd_swap (Ne.symm xf), upd_upd]
  simp only [upd_upd]
  rw [e2]
  have hx3 : upd H2 fd (.dK []) x = some (.ins 1105 dx []) := by rw [upd_ne xf]; exact hx2
  refine q _ bk' fd (fun c o hc hne => ?_) ((s1.trans s2).free hf0) upd_same ((hb'.keep (same_ext (same_upd hf0))).putI hx3) (by rw [upd_ne (Ne.symm xf), upd_same])
  rw [upd_ne hne, upd_ne (ne_of_none (s2 _ _ (s1 _ _ hc)) hf0)]
  exact s2 _ _ (s1 _ _ hc)
theorem ok_Disk_new (T : Txt K mg) : MakK P w K mg base 7 "Disk" 1105 1 ["rule", "size"] (fun vs zs => vs ++ (zs ++ [.bl true, .bl false, .bl false])) (spDiskI K) := by
  obtain ⟨fd, Fn⟩ := T.f_Disk_init
  obtain ⟨mv, b⟩ := FunD.kbinds0 (ps := ["self", "book", "rule", "size", "short", "back", "late"]) Fn 2 ["rule", "size"] [("short", .bl true), ("back", .bl false), ("late", .bl false)] (fun vs mz zs => vs ++ (zs ++ mz)) (by simp) (by simp) (fun r1 r2 r3 => r1.append (r3.append r2)) (fun D doc pm an cdv ct us mv ws h1 h2 h3 => match us, mv, ws, h1, h2, h3 with | [_, _], [_, _, _], [_, _], _, _, _ => ⟨_, _, _, _, _, _, rfl, rfl, _, _, _, _, _, _, rfl, rfl, _, _, _, _, _, _, rfl, rfl, rfl⟩)
  exact ⟨982, fd, _, _, T.k_Disk, fn_Disk_init T Fn, T.g_Disk, b⟩
theorem ok_Disk_all (T : Txt K mg) : MakK P w K mg base 7 "Disk" 1105 1 ["rule", "size", "short", "back", "late"] (fun vs zs => vs ++ ([] ++ zs)) (spDiskI K) := by
  obtain ⟨fd, Fn⟩ := T.f_Disk_init
  obtain ⟨mv, b⟩ := FunD.kbinds0 (ps := ["self", "book", "rule", "size", "short", "back", "late"]) Fn 2 ["rule", "size", "short", "back", "late"] [] (fun vs mz zs => vs ++ (mz ++ zs)) (by simp) (by simp) (fun r1 r2 r3 => r1.append (r2.append r3)) (fun D doc pm an cdv ct us mv ws h1 h2 h3 => match us, mv, ws, h1, h2, h3 with | [_, _], [], [_, _, _, _, _], _, _, _ => rfl)
  exact ⟨982, fd, _, _, T.k_Disk, fn_Disk_init T Fn, T.g_Disk, b⟩
theorem ok_Disk_names (T : Txt K mg) : MetC P w K mg base 1 1105 "names" (spNames K) := by
  refine metC_of T.f_Disk_names T.c_Disk T.m_Disk_names sc_Disk_names (fun _ _ _ _ _ _ us hl => match us, hl with | [_], _ => rfl) (fun vs H Q E h => by obtain ⟨d, A1, S, rfl, hd, q⟩ := h; rfl) fun cdv A outer s H vs Q E hr h => ?_
  obtain ⟨d, A1, S, rfl, hd, q⟩ := h
  refine ⟨_, (pss_one (ps_ret (pe_callTy (call_listD rfl) rfl T.b_list (by decide +kernel) (pa_cons (pe_fld (pv 0) rfl) pa_nil)))), ?_⟩
  refine ⟨_, rfl, _, _, _, _, _, rfl, hd.ins, T.c_Disk, T.n_Disk_files, rfl, A1.fd, _, rfl, .inl hd.dict, fun l hl => ?_⟩
  rw [kv_keys hd.files]
  exact q l hl
theorem ok_Disk_contains (T : Txt K mg) : SpcC P w K mg base 1 1105 "__contains__" (spIn K) := by
  refine spcC_of T.f_Disk_contains T.s_Disk_contains sc_Disk_contains (fun _ _ _ _ _ _ us hl => match us, hl with | [_, _], _ => rfl) (fun vs H Q E h => by obtain ⟨d, A1, S, nm, rfl, hd, q1, q2, nd⟩ := h; rfl) fun cdv A outer s H vs Q E hr h => ?_
  obtain ⟨d, A1, S, nm, rfl, hd, q1, q2, nd⟩ := h
  have hu := hu_of hr
  refine ⟨_, (pss_one (ps_ret (pe_and (pe_callB call_isB rfl T.b_isinstance (by decide +kernel) (pa_cons (pv 1) (pa_cons (pe_bltn (v := .ty "str") rfl T.b_str (by decide +kernel) rfl) pa_nil))) (pe_one (pe_cmp (pc_din hu (pv 1) (pe_fld (pv 0) rfl))))))), ?_⟩
  refine ⟨_, rfl, _, _, true, rfl, isi_str, true, rfl, iteT ?_⟩
  by_cases c : nm ∈ S.fs.map (·.nm)
  · obtain ⟨f, hf, e⟩ := List.mem_map.mp c
    obtain ⟨j, hj⟩ := List.getElem?_of_mem hf
    obtain ⟨a, ha, _⟩ := paired_at' hd.files hj
    refine ⟨_, rfl, _, rfl, _, _, _, _, _, rfl, hd.ins, T.c_Disk, T.n_Disk_files, rfl, A1.fd, _, rfl, DGet.k (k := Sum.inr nm) hd.dict, ?_⟩
    rw [← e, kv_some (j := j) hd.files nd hj ha]
    exact q1 c
  · refine ⟨_, rfl, _, rfl, _, _, _, _, _, rfl, hd.ins, T.c_Disk, T.n_Disk_files, rfl, A1.fd, _, rfl, DGet.k (k := Sum.inr nm) hd.dict, ?_⟩
    rw [kv_none hd.files c]
    exact q2 c
theorem ok_Disk_getitem (T : Txt K mg) : SpcC P w K mg base 1 1105 "__getitem__" (spGet K) := by
  refine spcC_of T.f_Disk_getitem T.s_Disk_getitem sc_Disk_getitem (fun _ _ _ _ _ _ us hl => match us, hl with | [_, _], _ => rfl) (fun vs H Q E h => by obtain ⟨d, A1, S, nm, j, f, a, rfl, hd, nd, hj, ha, e, q⟩ := h; rfl) fun cdv A outer s H vs Q E hr h => ?_
  obtain ⟨d, A1, S, nm, j, f, a, rfl, hd, nd, hj, ha, e, q⟩ := h
  have hu := hu_of hr
  refine ⟨_, (pss_cons (ps_if (PW.pt (pw_or (pt_not (pt_val (pe_callB call_isB rfl T.b_isinstance (by decide +kernel) (pa_cons (pv 1) (pa_cons (pe_bltn (v := .ty "str") rfl T.b_str (by decide +kernel) rfl) pa_nil))))) (pw_or1 (pt_cmp (pc_dnotin hu (pv 1) (pe_fld (pv 0) rfl))))))
    (pss_one ps_never)
    pss_nil)
  (pss_one (ps_ret (pe_dget hu (pe_fld (pv 0) rfl) (pv 1) (fun _ _ => rfl))))), ?_⟩
  have hv : valV (filesKv S.fs A1.fa) (.inr nm) = some (.ref a.1) := by rw [← e]; exact kv_some (j := j) hd.files nd hj ha
  refine ⟨_, rfl, _, _, true, rfl, isi_str, true, rfl, iteF ?_⟩
  refine ⟨_, rfl, _, rfl, _, _, _, _, _, rfl, hd.ins, T.c_Disk, T.n_Disk_files, rfl, A1.fd, _, rfl, DGet.k (k := Sum.inr nm) hd.dict, _, rfl, ?_⟩
  rw [hv]
  refine iteF ?_
  refine ⟨_, rfl, _, _, _, _, _, rfl, hd.ins, T.c_Disk, T.n_Disk_files, rfl, _, rfl, A1.fd, .ref a.1, rfl, ?_, q⟩
  rw [← hv]
  exact DGet.k (k := Sum.inr nm) hd.dict
theorem ok_Disk_free (T : Txt K mg) (TB : LamX.TabB base mg 688 684) : MetW P w K mg base 7 1105 "free" (spFree K) := by
  refine metW_of T.f_Disk_free T.c_Disk T.m_Disk_free sc_Disk_free (fun _ _ _ _ _ _ us hl => match us, hl with | [_], _ => rfl) (fun vs H Q E h => by obtain ⟨d, A1, S, rfl, hd, ok, hT, q⟩ := h; rfl) fun cdv A outer s H vs Q E c pn hw hr h => ?_
  obtain ⟨d, A1, S, rfl, hd, ok, hT, q⟩ := h
  refine ⟨_, (pss_cons (ps_set (i := 1) sc_Disk_free.nd rfl (Or.inl rfl) (pe_lst pa_nil))
  (pss_cons (ps_forW PassesOwn.never hw (pi_listW (pe_listVals hw (pe_fld (pv 0) rfl) rfl T.b_list boot_list)) (pg_name (i := 2) sc_Disk_free.nd rfl (Or.inl rfl))
    (pss_one (ps_expr (pe_bm F.plainAttrs_list F.slot_list_extend F.type_list_extend mt_extend (pv 1) (pa_cons (pe_mtw0 (ok_File_pieces T) hr (by decide) hw (pv 2)) pa_nil)))))
  (pss_one (ps_ret (pe_op (op_subO (ok_Room_sub T TB) hr (by decide) hw T.sf_Room) (pe_mkw (ok_Room_init T TB) hr (by decide) hw rfl (pa_cons (pe_lst (pa_cons (pe_tup (pa_cons pe_int (pa_cons (pe_fld (pv 0) rfl) pa_nil))) pa_nil)) pa_nil)) (pe_cw (ok_room_of T TB) hr (by decide) hw rfl (pa_cons (pe_cw (ok_joined T TB) hr (by decide) hw rfl (pa_cons (pv 1) pa_nil)) pa_nil))))))), ?_⟩
  have fl := paired_len hd.files
  have cnt := ok.count
  refine ⟨(by show 0 ≤ sizeLine; decide), fun r hr0 => ?_⟩
  have e1 : Same H (upd H r (.lst [])) := same_upd hr0
  refine ⟨_, rfl, _, _, _, _, _, rfl, e1 _ _ hd.ins, T.c_Disk, T.n_Disk_files, rfl, A1.fd, _, rfl, e1 _ _ hd.dict, fun l hl => ⟨l, rfl, ⟨_, SqL.of upd_same⟩, ?_⟩⟩
  have rl : r ≠ l := fun z => by rw [← z, upd_same] at hl; cases hl
  rw [kv_vals hd.files]
  have e2 : Same H (upd (upd H r (.lst [])) l (.lst (A1.fa.map fun a => V.ref a.1))) := e1.trans (same_upd hl)
  have hl2 : upd (upd H r (.lst [])) l (.lst (A1.fa.map fun a => V.ref a.1)) l = some (.lst (A1.fa.map fun a => V.ref a.1)) := upd_same
  have hr2 : upd (upd H r (.lst [])) l (.lst (A1.fa.map fun a => V.ref a.1)) r = some (.lst []) := by rw [upd_ne rl, upd_same]
  generalize upd (upd H r (.lst [])) l (.lst (A1.fa.map fun a => V.ref a.1)) = H2 at e2 hl2 hr2
  refine for_list (K := K) (a := l) (xs := A1.fa.map fun a => V.ref a.1) (fun i σ H' => (∃ x2, σ = [some (.ref d), some (.ref r), x2]) ∧ ∃ acc : List V, Same H H' ∧ H' l = some (.lst (A1.fa.map fun a => V.ref a.1)) ∧ H' r = some (.lst acc) ∧ Paired (PrV K H') acc (((S.fs.take i).flatMap (·.runs)).map so)) ?_ ?_ ?_ ?_
  · exact ⟨⟨_, rfl⟩, [], e2, hl2, hr2, .nil⟩
  · rintro i σ H3 _ ⟨_, acc, s3, h3, _⟩
    exact SqL.of h3
  · rintro i x σ H3 hx ⟨⟨x2, rfl⟩, acc, s3, hl3, hr3, hp3⟩
    rw [List.getElem?_map] at hx
    cases hai : A1.fa[i]? with
    | none => rw [hai] at hx; cases hx
    | some a =>
      rw [hai] at hx
      have ex : x = .ref a.1 := (Option.some.inj hx).symm
      subst ex
      obtain ⟨f, hfi, ⟨dx, hfa⟩, hrl⟩ := paired_at hd.files hai
      have al := paired_len hp3
      rw [List.length_map] at al
      have tk : (S.fs.take (i + 1)).flatMap (·.runs) = (S.fs.take i).flatMap (·.runs) ++ f.runs := by
        rw [take_snoc hfi, List.flatMap_append]
        simp
      have tl : ((S.fs.take (i + 1)).flatMap (·.runs)).length ≤ 300 := by
        have e : allR S = (S.fs.take (i + 1)).flatMap (·.runs) ++ (S.fs.drop (i + 1)).flatMap (·.runs) := by
          unfold allR
          rw [← List.flatMap_append, List.take_append_drop]
        rw [e, List.length_append] at cnt
        omega
      rw [tk, List.length_append] at tl
      refine ⟨_, rfl, .inl ⟨rfl, acc, SqL.of hr3⟩, _, rfl, a.1, dx, _, rfl, s3 _ _ hfa, rfl, a.1, dx, d, a.2, f.nm, f.size, f.hold, f.runs, rfl, s3 _ _ hfa, hrl.keep (same_ext s3), fun H4 l4 s4 hl4 hp4 => ?_⟩
      obtain ⟨zs, hzs, hzp⟩ := hp4
      have zl := paired_len hzp
      rw [List.length_map] at zl
      have hr4 := s4 _ _ hr3
      have rl4 : r ≠ l4 := ne_of_none hr3 hl4
      refine ⟨r, l4, acc, zs, rfl, rfl, hr4, hzs, by rw [sizeLine_eq]; omega, ⟨_, rfl⟩, acc ++ zs, ?_, ?_, upd_same, ?_⟩
      · exact fun c o hc => by rw [upd_ne (ne_of_none hc hr0)]; exact s4 _ _ (s3 _ _ hc)
      · by_cases z : l = r
        · exfalso
          rw [z] at hl2
          exact rl (by rw [z])
        · rw [upd_ne z]; exact s4 _ _ hl3
      · rw [tk, List.map_append]
        exact paired_app (paired_mono hp3 fun _ _ z => (z.keep (same_ext s4)).putL hr4) (paired_mono hzp fun _ _ z => z.putL hr4)
  · rintro σ H3 ⟨⟨x2, rfl⟩, acc, s3, hl3, hr3, hp3⟩
    have et : (S.fs.take (A1.fa.map fun a => V.ref a.1).length).flatMap (·.runs) = allR S := by
      rw [List.length_map, fl, List.take_length] <;> rfl
    rw [et] at hp3
    have n1 := ok.n1
    refine ⟨_, rfl, _, _, _, _, _, rfl, s3 _ _ hd.ins, T.c_Disk, T.n_Disk_size, rfl, (by show 2 ≤ sizeLine; decide), fun t ht => ⟨(by show 1 ≤ sizeLine; decide), fun l2 hl2' => fun x dx nx nd ne => ?_⟩⟩
    have tl : t ≠ l2 := fun z => by rw [← z, upd_same] at hl2'; cases hl2'
    have s5 : Same H3 (upd (upd H3 t (.tup [.int 0, .int S.n])) l2 (.lst [.ref t])) := (same_upd ht).trans (same_upd hl2')
    have h5t : SqT K (upd (upd H3 t (.tup [.int 0, .int S.n])) l2 (.lst [.ref t])) t [.int 0, .int S.n] := SqT.of (by rw [upd_ne tl, upd_same])
    have h5l : upd (upd H3 t (.tup [.int 0, .int S.n])) l2 (.lst [.ref t]) l2 = some (.lst [.ref t]) := upd_same
    have s6 : Same (upd (upd H3 t (.tup [.int 0, .int S.n])) l2 (.lst [.ref t])) (upd (upd (upd (upd H3 t (.tup [.int 0, .int S.n])) l2 (.lst [.ref t])) dx (.own x)) x (.ins 838 dx [])) := fun c o e => by rw [upd_ne (ne_of_none e nx), upd_ne (ne_of_none e nd)]; exact e
    have s36 := s5.trans s6
    refine ⟨x, dx, l2, rfl, upd_same, .inr ⟨t, S.n, s6 _ _ h5l, sqT_keep (same_ext s6) h5t, by omega, hT.ext (s3.trans s36), fun H7 dd e7 t7 hp7 => ⟨rfl, ?_⟩⟩⟩
    have hx7 : H7 x = some (.ins 838 dx []) := keep_ins e7 upd_same
    -- the room of all blocks
    have s8 : LamX.ExtN H3 (upd H7 x (.ins 838 dx [("pairs", .ref dd)])) := fun c o hc ho => by
      have z : c ≠ x := fun z => by
        rw [z] at hc
        rw [(s5 _ _ hc)] at nx
        cases nx
      rw [upd_ne z]
      exact e7 c o (s36 _ _ hc) ho
    have t8 : LamX.Tabs T0 (upd H7 x (.ins 838 dx [("pairs", .ref dd)])) := fun p hp => by
      obtain ⟨ps, h1, h2, h3⟩ := t7 p hp
      refine ⟨ps, by rw [upd_ne (fun z => by rw [z, hx7] at h1; cases h1)]; exact h1, h2, fun pos cv hc => ?_⟩
      obtain ⟨c, e1, e2⟩ := h3 pos cv hc
      exact ⟨c, e1, by rw [upd_ne (fun z => by rw [z, hx7] at e2; cases e2)]; exact e2⟩
    have r8 : RoomAt K (upd H7 x (.ins 838 dx [("pairs", .ref dd)])) x [(0, some S.n)] := by
      obtain ⟨ws, h1, h2⟩ := hp7
      refine ⟨dx, dd, upd_same, ws, by rw [upd_ne (fun z => by rw [z, hx7] at h1; cases h1)]; exact h1, paired_mono h2 fun v p z => ?_⟩
      obtain ⟨tt, y1, y2⟩ := z
      exact ⟨tt, y1, sqT_put (fun ys z => by rw [hx7] at z; cases z) (fun o ys z => by rw [hx7] at z; cases z) y2⟩
    generalize upd H7 x (.ins 838 dx [("pairs", .ref dd)]) = H8 at s8 t8 r8
    refine ⟨_, rfl, r, allR S, S.n, rfl, ⟨acc, keep_lst s8 hr3, paired_mono hp3 fun _ _ z => z.keep s8⟩, ok.ap, by omega, t8, fun H9 d9 F9 R9 e9 t9 pm j9 hp9 => ?_⟩
    have ap9 := ok.ap.perm pm
    have fo := Gf.free_ok (by omega) ap9 j9
    have f9l : (F9.length : Int) ≤ S.n := by
      have h1 := pairs_len (n := S.n) (L := []) (F := F9) j9.pos
      rw [j9.sum, ← Gf.sumR_perm pm] at h1
      have h2 : Gf.sumR (allR S) = Gf.holds (absS S) := all_sum ok.sum
      have := ok.tot
      omega
    refine ⟨d9, rfl, fun H10 z10 dz10 s10 _ hz10 => ?_⟩
    have r10 := (r8.keep e9).keep (same_ext s10)
    have f10 := hp9.keep (same_ext s10)
    obtain ⟨da, db, h10a, h10b⟩ := r10
    refine ⟨x, _, _, z10, _, _, rfl, rfl, h10a, hz10, x, z10, [(0, some S.n)], F9, rfl, ⟨da, db, h10a, h10b⟩, ⟨dz10, d9, hz10, f10⟩, by show 1 ≤ 1000; decide, by omega, fun H11 z11 s11 hz11 => ⟨⟨z11, rfl⟩, ?_⟩⟩
    have hs := Gf.shared_free (n := S.n) j9.sep (fun p hp => ⟨(j9.bound ap9 hp).1, j9.pos p hp⟩) (fun p hp => (j9.bound ap9 hp).2) (by omega)
    have hs' : Gf.sharedM [(0, some S.n)] (Gf.othersM F9) = (Gf.freeM S.n F9).map so := hs
    rw [hs'] at hz11
    have fo2 := free_perm pm fo
    have fl2 : ((Gf.freeM S.n F9).length : Int) ≤ S.n := by
      have h1 := pairs_len (n := S.n) (L := []) (F := Gf.freeM S.n F9) fun p hp => (fo2.pos p hp).2.1
      have h2 := fo2.sum
      have h3 : Gf.sumR (allR S) = Gf.holds (absS S) := all_sum ok.sum
      have h4 := runs_count ok.ap.len
      omega
    have sall : LamX.ExtN H H11 := (same_ext s3).trans (s8.trans (e9.trans (same_ext (s10.trans s11))))
    exact q H11 z11 _ sall (t9.ext (s10.trans s11)) fo2 (by omega) hz11
end
end Gt
/-! ## GfD3 -/
set_option Elab.async false
set_option linter.all false
set_option maxRecDepth 100000
set_option maxHeartbeats 4000000
namespace Gt
open PySem PySem.Spec PyProof.Rows L2 Wm GenW
/-! ### a file's new state -/
theorem nodup_at {α : Type} : ∀ {L : List α} {i j : Nat} {a : α}, L.Nodup → L[i]? = some a → L[j]? = some a → i = j
  | [], _, _, _, _, h, _ => by simp at h
  | x :: L, 0, 0, _, _, _, _ => rfl
  | x :: L, 0, j + 1, a, nd, h1, h2 => by
    obtain ⟨n1, _⟩ := List.nodup_cons.mp nd
    have e := Option.some.inj h1
    have h2' : L[j]? = some a := h2
    exact absurd (by rw [e]; exact List.mem_of_getElem? h2') n1
  | x :: L, i + 1, 0, a, nd, h1, h2 => by
    obtain ⟨n1, _⟩ := List.nodup_cons.mp nd
    have e := Option.some.inj h2
    have h1' : L[i]? = some a := h1
    exact absurd (by rw [e]; exact List.mem_of_getElem? h1') n1
  | x :: L, i + 1, j + 1, a, nd, h1, h2 => by
    obtain ⟨_, n2⟩ := List.nodup_cons.mp nd
    exact congrArg (· + 1) (nodup_at (L := L) n2 h1 h2)
theorem paired_setI {α β : Type} {R S : α → β → Prop} {b' : β} : ∀ {as : List α} {bs : List β} (j : Nat), Paired R as bs → (∀ i a b, i ≠ j → as[i]? = some a → bs[i]? = some b → R a b → S a b) → (∀ a, as[j]? = some a → S a b') → Paired S as (bs.set j b')
  | _, _, _, .nil, _, _ => .nil
  | a :: as, b :: bs, 0, .cons _ t, h1, h2 => .cons (h2 a rfl) (paired_of t fun i x y hx hy r => h1 (i + 1) x y (by omega) hx hy r)
  | a :: as, b :: bs, j + 1, .cons r t, h1, h2 => .cons (h1 0 a b (by omega) rfl rfl r) (paired_setI j t (fun i x y hne hx hy r => h1 (i + 1) x y (by omega) hx hy r) fun x hx => h2 x hx)
where
  paired_of {α β : Type} {R S : α → β → Prop} : ∀ {as : List α} {bs : List β}, Paired R as bs → (∀ i a b, as[i]? = some a → bs[i]? = some b → R a b → S a b) → Paired S as bs
    | _, _, .nil, _ => .nil
    | a :: as, b :: bs, .cons r t, h => .cons (h 0 a b rfl rfl r) (paired_of t fun i x y hx hy r => h (i + 1) x y hx hy r)
theorem kv_set {f f' : FSt} (e : f'.nm = f.nm) : ∀ {fs : List FSt} {fa : List (Addr × Addr)} {j : Nat}, fs[j]? = some f → filesKv (fs.set j f') fa = filesKv fs fa
  | [], _, _, h => by simp at h
  | g :: fs, [], 0, h => rfl
  | g :: fs, [], j + 1, h => rfl
  | g :: fs, a :: fa, 0, h => by
    have eg := Option.some.inj h
    show (Sum.inr f'.nm, V.ref a.1) :: filesKv fs fa = (Sum.inr g.nm, V.ref a.1) :: filesKv fs fa
    rw [e, ← eg]
  | g :: fs, a :: fa, j + 1, h => by
    have h' : fs[j]? = some f := h
    show (Sum.inr g.nm, V.ref a.1) :: filesKv (fs.set j f') fa = (Sum.inr g.nm, V.ref a.1) :: filesKv fs fa
    rw [kv_set e h']
def setF (S : DSt) (j : Nat) (f' : FSt) : DSt := { S with fs := S.fs.set j f' }
theorem sqT_else {K : PySem.W.Frag} {H H' : Hp} {a b t : Addr} {xs : List V} (ka : ∀ ys, H a ≠ some (.tup ys)) (ka2 : ∀ o ys, H a ≠ some (.frz o (.tup ys))) (kb : ∀ ys, H b ≠ some (.tup ys)) (kb2 : ∀ o ys, H b ≠ some (.frz o (.tup ys)))
    (oth : ∀ c o, H c = some o → c ≠ a → c ≠ b → H' c = some o) (h : SqT K H t xs) : SqT K H' t xs := by
  rcases h with (h | ⟨o, h⟩) | h
  · exact .inl (.inl (oth _ _ h (fun z => by rw [z] at h; exact ka _ h) fun z => by rw [z] at h; exact kb _ h))
  · exact .inl (.inr ⟨o, oth _ _ h (fun z => by rw [z] at h; exact ka2 _ _ h) fun z => by rw [z] at h; exact kb2 _ _ h⟩)
  · exact .inr h
theorem DiskF.setFile {K : PySem.W.Frag} {H0 H H' : Hp} {d : Addr} {A : DA} {S : DSt} {j : Nat} {f f' : FSt} {a : Addr × Addr} (D : DiskF K H0 H d A S) (hf : S.fs[j]? = some f) (ha : A.fa[j]? = some a) (e : f'.nm = f.nm)
    (h1 : ∃ dx, H' a.1 = some (.ins 956 dx (fileFs d f'.nm f'.size f'.hold a.2))) (h2 : PairsL K H' a.2 (f'.runs.map so)) (oth : ∀ c o, H c = some o → c ≠ a.1 → c ≠ a.2 → H' c = some o) : DiskF K H0 H' d A (setF S j f') := by
  obtain ⟨g, hg, ⟨⟨dx0, k1⟩, ls, k2, _⟩⟩ := paired_at D.disk.files ha
  have am : a ∈ A.fa := List.mem_of_getElem? ha
  have t1 : ∀ ys, H a.1 ≠ some (.tup ys) := fun ys z => by rw [k1] at z; cases z
  have t2 : ∀ o ys, H a.1 ≠ some (.frz o (.tup ys)) := fun o ys z => by rw [k1] at z; cases z
  have t3 : ∀ ys, H a.2 ≠ some (.tup ys) := fun ys z => by rw [k2] at z; cases z
  have t4 : ∀ o ys, H a.2 ≠ some (.frz o (.tup ys)) := fun o ys z => by rw [k2] at z; cases z
  have sq : ∀ {t : Addr} {xs : List V}, SqT K H t xs → SqT K H' t xs := fun h => sqT_else t1 t2 t3 t4 oth h
  refine ⟨⟨?_, ?_, ?_, ?_, D.disk.nd1, D.disk.nd2⟩, D.out, fun b o hb ho => ?_, fun p hp => ?_, D.nt⟩
  · exact oth _ _ D.disk.ins (fun z => by have := D.disk.ins; rw [z, k1] at this; cases this) fun z => by have := D.disk.ins; rw [z, k2] at this; cases this
  · obtain ⟨dy, t, b1, b2, b3⟩ := D.disk.book
    exact ⟨dy, t, oth _ _ b1 (fun z => by rw [z, k1] at b1; cases b1) (fun z => by rw [z, k2] at b1; cases b1), sq b2, b3⟩
  · show H' A.fd = some (.dK (filesKv (S.fs.set j f') A.fa))
    rw [kv_set e hf]
    exact oth _ _ D.disk.dict (fun z => by have := D.disk.dict; rw [z, k1] at this; cases this) fun z => by have := D.disk.dict; rw [z, k2] at this; cases this
  · refine paired_setI j D.disk.files (fun i c g' hne hc hg' r => ?_) fun c hc => ?_
    · obtain ⟨⟨dx, r1⟩, ws, r2, r3⟩ := r
      have n1 : c.1 ≠ a.1 := fun z => hne (nodup_at D.disk.nd1 (a := a.1) (by rw [List.getElem?_map, hc, ← z] <;> rfl) (by rw [List.getElem?_map, ha] <;> rfl))
      have n2 : c.2 ≠ a.2 := fun z => hne (nodup_at D.disk.nd2 (a := a.2) (by rw [List.getElem?_map, hc, ← z] <;> rfl) (by rw [List.getElem?_map, ha] <;> rfl))
      refine ⟨⟨dx, oth _ _ r1 n1 fun z => by rw [z, k2] at r1; cases r1⟩, ws, oth _ _ r2 (fun z => by rw [z, k1] at r2; cases r2) n2, paired_mono r3 fun v p z => ?_⟩
      obtain ⟨t, y1, y2⟩ := z
      exact ⟨t, y1, sq y2⟩
    · rw [ha] at hc
      have ec := Option.some.inj hc
      subst ec
      exact ⟨h1, h2⟩
  · have f1 : b ≠ a.1 := fun z => by
      have := D.out a.1 (by unfold foot; simp only [List.mem_cons, List.mem_append, List.mem_map]; exact .inr (.inr (.inl ⟨a, am, rfl⟩)))
      rw [z, this] at hb; cases hb
    have f2 : b ≠ a.2 := fun z => by
      have := D.out a.2 (by unfold foot; simp only [List.mem_cons, List.mem_append, List.mem_map]; exact .inr (.inr (.inr ⟨a, am, rfl⟩)))
      rw [z, this] at hb; cases hb
    exact oth _ _ (D.ext b o hb ho) f1 f2
  · obtain ⟨ps, q1, q2, q3⟩ := D.tab p hp
    refine ⟨ps, oth _ _ q1 (fun z => by rw [z, k1] at q1; cases q1) (fun z => by rw [z, k2] at q1; cases q1), q2, fun pos cv hc => ?_⟩
    obtain ⟨c, e1, e2⟩ := q3 pos cv hc
    exact ⟨c, e1, oth _ _ e2 (fun z => by rw [z, k1] at e2; cases e2) fun z => by rw [z, k2] at e2; cases e2⟩
theorem DiskF.setAfter {K : PySem.W.Frag} {H0 H : Hp} {d : Addr} {A : DA} {S : DSt} {af : Int} (D : DiskF K H0 H d A S) : DiskF K H0 (upd H d (.ins 1105 A.dx (diskFs A.bk A.fd S.rule S.n af))) d A { S with after := af } := by
  have hd := D.disk.ins
  have t1 : ∀ ys, H d ≠ some (.tup ys) := fun ys z => by rw [hd] at z; cases z
  have t2 : ∀ o ys, H d ≠ some (.frz o (.tup ys)) := fun o ys z => by rw [hd] at z; cases z
  refine ⟨⟨upd_same, D.disk.book.putI hd, ?_, ?_, D.disk.nd1, D.disk.nd2⟩, D.out, fun b o hb ho => ?_, fun p hp => ?_, D.nt⟩
  · rw [upd_ne (fun z => by have := D.disk.dict; rw [z, hd] at this; cases this)]
    exact D.disk.dict
  · refine paired_mono D.disk.files fun c g r => ?_
    obtain ⟨⟨dx, r1⟩, ws, r2, r3⟩ := r
    refine ⟨⟨dx, by rw [upd_ne (fun z => by rw [z, hd] at r1; cases r1)]; exact r1⟩, ws, by rw [upd_ne (fun z => by rw [z, hd] at r2; cases r2)]; exact r2, paired_mono r3 fun v p z => ?_⟩
    obtain ⟨t, y1, y2⟩ := z
    exact ⟨t, y1, sqT_put t1 t2 y2⟩
  · have : b ≠ d := fun z => by
      have := D.out d (by unfold foot; simp)
      rw [z, this] at hb; cases hb
    rw [upd_ne this]
    exact D.ext b o hb ho
  · obtain ⟨ps, q1, q2, q3⟩ := D.tab p hp
    refine ⟨ps, by rw [upd_ne (fun z => by rw [z, hd] at q1; cases q1)]; exact q1, q2, fun pos cv hc => ?_⟩
    obtain ⟨c, e1, e2⟩ := q3 pos cv hc
    exact ⟨c, e1, by rw [upd_ne (fun z => by rw [z, hd] at e2; cases e2)]; exact e2⟩
theorem flat_set {f f' : FSt} {x : Int} : ∀ {fs : List FSt} {j : Nat}, fs[j]? = some f → Gf.cntR ((fs.set j f').flatMap (·.runs)) x + Gf.cntR f.runs x = Gf.cntR (fs.flatMap (·.runs)) x + Gf.cntR f'.runs x
  | [], _, h => by simp at h
  | g :: fs, 0, h => by
    have e := Option.some.inj h
    subst e
    rw [List.set_cons_zero, List.flatMap_cons, List.flatMap_cons, Gf.cntR_app, Gf.cntR_app]
    omega
  | g :: fs, j + 1, h => by
    have h' : fs[j]? = some f := h
    have := flat_set (f' := f') (x := x) h'
    rw [List.set_cons_succ, List.flatMap_cons, List.flatMap_cons, Gf.cntR_app, Gf.cntR_app]
    omega
def Nx (S : DSt) (j : Nat) (many : Int) (S' : DSt) : Prop := S'.b = S.b ∧ S'.n = S.n ∧ S'.rule = S.rule ∧ S'.fs.map (·.nm) = S.fs.map (·.nm) ∧ Gf.growA S.b S.n (absS S) j many = some (absS S')
theorem abs_at {S : DSt} {j : Nat} {f : FSt} (h : S.fs[j]? = some f) : (absS S)[j]? = some (f.size, f.hold) := by
  unfold absS
  rw [List.getElem?_map, h] <;> rfl
theorem abs_set {S : DSt} {j : Nat} {f' : FSt} : absS (setF S j f') = (absS S).set j (f'.size, f'.hold) := by
  unfold absS setF
  exact List.map_set ..
theorem nm_set {f f' : FSt} (e : f'.nm = f.nm) : ∀ {fs : List FSt} {j : Nat}, fs[j]? = some f → (fs.set j f').map (·.nm) = fs.map (·.nm)
  | [], _, h => by simp at h
  | g :: fs, 0, h => by
    have eg := Option.some.inj h
    rw [List.set_cons_zero, List.map_cons, List.map_cons, e, eg]
  | g :: fs, j + 1, h => by
    have h' : fs[j]? = some f := h
    rw [List.set_cons_succ, List.map_cons, List.map_cons, nm_set e h']
theorem mem_setF {f' g : FSt} {S : DSt} {j : Nat} (h : g ∈ (setF S j f').fs) : g = f' ∨ g ∈ S.fs := (List.mem_or_eq_of_mem_set h).symm
/-- nothing new is given -/
theorem DOk.more {S : DSt} {j : Nat} {f : FSt} {many : Int} (o : DOk S) (hf : S.fs[j]? = some f) (hm : 0 ≤ many) (hn : f.size + many - f.hold ≤ 0) : DOk (setF S j { f with size := f.size + many }) ∧ Nx S j many (setF S j { f with size := f.size + many }) := by
  have z := o.sz f (List.mem_of_getElem? hf)
  have sm := o.sum f (List.mem_of_getElem? hf)
  have ab : absS (setF S j { f with size := f.size + many }) = (absS S).set j (f.size + many, f.hold) := abs_set
  refine ⟨⟨⟨fun r hr => ?_, fun x => ?_⟩, fun g hg => ?_, fun g hg => ?_, ?_, o.af, o.n1, o.bk, o.rule, ?_, ?_⟩, rfl, rfl, rfl, nm_set (f := f) (f' := { f with size := f.size + many }) rfl hf, ?_⟩
  · obtain ⟨g, hg, hr2⟩ := List.mem_flatMap.mp hr
    rcases mem_setF hg with e | hg
    · rw [e] at hr2
      exact o.ap.len r (List.mem_flatMap.mpr ⟨f, List.mem_of_getElem? hf, hr2⟩)
    · exact o.ap.len r (List.mem_flatMap.mpr ⟨g, hg, hr2⟩)
  · have h1 := flat_set (f' := { f with size := f.size + many }) (x := x) hf
    have h2 := o.ap.one x
    have h3 : Gf.cntR (allR (setF S j { f with size := f.size + many })) x + Gf.cntR f.runs x = Gf.cntR (allR S) x + Gf.cntR f.runs x := h1
    show Gf.cntR (allR (setF S j { f with size := f.size + many })) x ≤ Gf.oneIn S.n x
    omega
  · rcases mem_setF hg with e | hg
    · rw [e]; exact sm
    · exact o.sum g hg
  · rcases mem_setF hg with e | hg
    · rw [e]
      show 0 ≤ f.size + many ∧ f.size + many ≤ f.hold
      omega
    · exact o.sz g hg
  · rw [ab, Gf.holds_set (abs_at hf)]
    have := o.tot
    show Gf.holds (absS S) - f.hold + f.hold ≤ S.n
    omega
  · show ((S.fs.set j _).map (·.nm)).Nodup
    rw [nm_set (f := f) (f' := { f with size := f.size + many }) rfl hf]
    exact o.nd
  · show (S.fs.set j _).length ≤ 8
    rw [List.length_set]
    exact o.len
  · rw [ab]
    unfold Gf.growA
    rw [abs_at hf]
    show (if f.size + many - f.hold ≤ 0 then _ else _) = _
    rw [if_pos hn]
/-- runs are given -/
theorem DOk.give {S : DSt} {j : Nat} {f : FSt} {many af g : Int} {Fr R : List (Int × Int)} (o : DOk S) (hf : S.fs[j]? = some f) (hm : 0 ≤ many) (hn : ¬ f.size + many - f.hold ≤ 0) (fo : Gf.FreeOk S.n (allR S) Fr) (gv : Gf.GiveOk Fr R) (hle : f.size + many - f.hold ≤ Gf.sumP Fr)
    (hg : g = Gf.sumR R) (hsum : g = (if (if Gf.stepB S.b f.hold > f.size + many - f.hold then Gf.stepB S.b f.hold else f.size + many - f.hold) < Gf.sumP Fr then (if Gf.stepB S.b f.hold > f.size + many - f.hold then Gf.stepB S.b f.hold else f.size + many - f.hold) else Gf.sumP Fr)) (haf : 0 ≤ af ∧ af ≤ 1000000) :
    DOk { setF S j { f with size := f.size + many, hold := f.hold + g, runs := Gf.putM f.runs R } with after := af } ∧ Nx S j many { setF S j { f with size := f.size + many, hold := f.hold + g, runs := Gf.putM f.runs R } with after := af } := by
  have fm := List.mem_of_getElem? hf
  have z := o.sz f fm
  have sm := o.sum f fm
  have po := Gf.put_ok f.runs R
  have fl : ∀ r ∈ f.runs, 1 ≤ r.2 := fun r hr => o.ap.len r (List.mem_flatMap.mpr ⟨f, fm, hr⟩)
  have hall : Gf.sumR (allR S) = Gf.holds (absS S) := all_sum o.sum
  have free : Gf.sumP Fr = S.n - Gf.holds (absS S) := by have := fo.sum; omega
  have ab : absS { setF S j { f with size := f.size + many, hold := f.hold + g, runs := Gf.putM f.runs R } with after := af } = (absS S).set j (f.size + many, f.hold + g) := abs_set (S := S) (f' := { f with size := f.size + many, hold := f.hold + g, runs := Gf.putM f.runs R })
  have bounds : f.size + many - f.hold ≤ g ∧ g ≤ Gf.sumP Fr := by
    rw [hsum]
    split <;> split <;> omega
  have ap2 := o.ap.give fo gv
  refine ⟨⟨⟨fun r hr => ?_, fun x => ?_⟩, fun q hq => ?_, fun q hq => ?_, ?_, haf, o.n1, o.bk, o.rule, ?_, ?_⟩, rfl, rfl, rfl, nm_set (f := f) (f' := { f with size := f.size + many, hold := f.hold + g, runs := Gf.putM f.runs R }) rfl hf, ?_⟩
  · obtain ⟨q, hq, hr2⟩ := List.mem_flatMap.mp hr
    rcases mem_setF (S := S) hq with e | hq
    · rw [e] at hr2
      exact po.len fl gv.len r hr2
    · exact o.ap.len r (List.mem_flatMap.mpr ⟨q, hq, hr2⟩)
  · have h1 := flat_set (f' := { f with size := f.size + many, hold := f.hold + g, runs := Gf.putM f.runs R }) (x := x) hf
    have h2 := ap2.one x
    rw [Gf.cntR_app] at h2
    have h3 := po.cnt fl gv.len x
    have h4 : Gf.cntR ((S.fs.set j { f with size := f.size + many, hold := f.hold + g, runs := Gf.putM f.runs R }).flatMap (·.runs)) x + Gf.cntR f.runs x = Gf.cntR (allR S) x + Gf.cntR (Gf.putM f.runs R) x := h1
    show Gf.cntR ((S.fs.set j { f with size := f.size + many, hold := f.hold + g, runs := Gf.putM f.runs R }).flatMap (·.runs)) x ≤ Gf.oneIn S.n x
    omega
  · rcases mem_setF (S := S) hq with e | hq
    · rw [e]
      show Gf.sumR (Gf.putM f.runs R) = f.hold + g
      rw [po.sum, sm, hg]
    · exact o.sum q hq
  · rcases mem_setF (S := S) hq with e | hq
    · rw [e]
      show 0 ≤ f.size + many ∧ f.size + many ≤ f.hold + g
      omega
    · exact o.sz q hq
  · rw [ab, Gf.holds_set (abs_at hf)]
    show Gf.holds (absS S) - f.hold + (f.hold + g) ≤ S.n
    omega
  · show ((S.fs.set j _).map (·.nm)).Nodup
    rw [nm_set (f := f) (f' := { f with size := f.size + many, hold := f.hold + g, runs := Gf.putM f.runs R }) rfl hf]
    exact o.nd
  · show (S.fs.set j _).length ≤ 8
    rw [List.length_set]
    exact o.len
  · rw [ab]
    unfold Gf.growA
    rw [abs_at hf]
    show (if f.size + many - f.hold ≤ 0 then _ else if S.n - Gf.holds (absS S) < f.size + many - f.hold then _ else _) = _
    rw [if_neg hn, if_neg (by omega)]
    have eg : Gf.given S.b f.hold (f.size + many - f.hold) (S.n - Gf.holds (absS S)) = g := by
      unfold Gf.given
      rw [hsum, ← free]
      by_cases c : (if Gf.stepB S.b f.hold > f.size + many - f.hold then Gf.stepB S.b f.hold else f.size + many - f.hold) < Gf.sumP Fr
      · rw [if_pos c, if_pos (by omega)]
      · rw [if_neg c]
        split <;> omega
    rw [eg]
theorem grow_none {S : DSt} {j : Nat} {f : FSt} {many : Int} {Fr : List (Int × Int)} (o : DOk S) (hf : S.fs[j]? = some f) (hn : ¬ f.size + many - f.hold ≤ 0) (fo : Gf.FreeOk S.n (allR S) Fr) (h : Gf.sumP Fr < f.size + many - f.hold) : Gf.growA S.b S.n (absS S) j many = none := by
  have hall : Gf.sumR (allR S) = Gf.holds (absS S) := all_sum o.sum
  have free : Gf.sumP Fr = S.n - Gf.holds (absS S) := by have := fo.sum; omega
  unfold Gf.growA
  rw [abs_at hf]
  show (if f.size + many - f.hold ≤ 0 then _ else if S.n - Gf.holds (absS S) < f.size + many - f.hold then _ else _) = _
  rw [if_neg hn, if_pos (by omega)]
end Gt
/-! ## GfD4 -/
set_option Elab.async false
set_option linter.all false
set_option maxRecDepth 100000
set_option maxHeartbeats 4000000
namespace Gt
open PySem PySem.Spec PyProof.Rows L2 Wm GenW
/-! ### twin, make, open_file, Refused -/
theorem pe_nvr {X : Cx} {e : Expr} : PE X e (fun _ _ _ => False) := ⟨fun _ _ _ _ _ _ h => h.elim⟩
def spTwinD (K : PySem.W.Frag) : Sp := fun vs H Q _ => ∃ (d : Addr) (A : DA) (S : DSt), vs = [.ref d] ∧ DiskAt K H d A S ∧ S.fs = [] ∧ DOk S ∧ ∀ H' d' A', Same H H' → (∀ b ∈ foot d' A', H b = none) → DiskAt K H' d' A' S → A'.fa = [] → Q (.ref d') H'
def spIsName : Sp := fun vs H Q _ => ∃ j : Nat, vs = [.str (nm j)] ∧ j < 8 ∧ ∀ H', Same H H' → Q (.bl true) H'
def spMake (K : PySem.W.Frag) : Sp := fun vs H Q _ => ∃ (H0 : Hp) (d : Addr) (A : DA) (S : DSt) (j : Nat), vs = [.ref d, .str (nm j)] ∧ DiskF K H0 H d A S ∧ nm j ∉ S.fs.map (·.nm) ∧ j < 8 ∧ S.fs.length ≤ 8 ∧ ∀ H' A', DiskF K H0 H' d A' { S with fs := S.fs ++ [⟨nm j, 0, 0, []⟩] } → Q .non H'
def spRefI : Sp := fun vs H Q _ => ∃ (a : Addr) (z : Str) (n : Int), vs = [.ref a, .str z, .int n] ∧ H a = some (exo a 260 none) ∧ ∀ dx, H dx = none → dx ≠ a → Q .non (upd (upd H dx (exd dx [("need", .int n), ("name", .str z)])) a (exo a 260 (some dx)))
theorem upd_id {H : Hp} {a : Addr} {o : HO} (h : H a = some o) : upd H a o = H := by
  funext b
  by_cases e : b = a
  · rw [e, upd_same, h]
  · rw [upd_ne e]
theorem small_mem {j : Nat} (h : j < 8) : decide (97 + j ∈ (Str.ofString "abcdefghijklmnopqrstuvwxyz").cps.toList) = true := by
  have : ∀ j, j < 8 → decide (97 + j ∈ (Str.ofString "abcdefghijklmnopqrstuvwxyz").cps.toList) = true := by decide +kernel
  exact this j h
theorem putK_new {k : Key} {v : V} : ∀ {kvs : List (Key × V)}, k ∉ kvs.map (·.1) → L2.putK kvs k v = kvs ++ [(k, v)]
  | [], _ => by simp [L2.putK]
  | (j, x) :: r, h => by
    have h1 : ¬ j = k := fun z => h (by rw [z]; exact List.mem_cons_self)
    rw [putK_cons, if_neg h1, putK_new fun z => h (List.mem_cons_of_mem _ z)] <;> rfl
theorem kv_app {f : FSt} {a : Addr × Addr} : ∀ {fs : List FSt} {fa : List (Addr × Addr)}, fa.length = fs.length → filesKv (fs ++ [f]) (fa ++ [a]) = filesKv fs fa ++ [(.inr f.nm, .ref a.1)]
  | [], [], _ => rfl
  | g :: fs, c :: fa, h => by
    have h' : fa.length = fs.length := Nat.succ.inj h
    show (Sum.inr g.nm, V.ref c.1) :: filesKv (fs ++ [f]) (fa ++ [a]) = _
    rw [kv_app h'] <;> rfl
theorem kv_key {fa : List (Addr × Addr)} {nm : Str} : ∀ {fs : List FSt} {fa : List (Addr × Addr)}, nm ∉ fs.map (·.nm) → (Sum.inr nm : Key) ∉ (filesKv fs fa).map (·.1)
  | [], [], _ => by simp [filesKv]
  | [], _ :: _, _ => by simp [filesKv]
  | _ :: _, [], _ => by simp [filesKv]
  | g :: fs, c :: fa, h => by
    intro z
    rcases List.mem_cons.mp (show (Sum.inr nm : Key) ∈ (Sum.inr g.nm : Key) :: (filesKv fs fa).map (·.1) from z) with e | e
    · exact h (by rw [Sum.inr.inj e]; exact List.mem_cons_self)
    · exact kv_key (fa := fa) (fun y => h (List.mem_cons_of_mem _ y)) e
theorem DiskF.addFile {K : PySem.W.Frag} {H0 H H' : Hp} {d : Addr} {A : DA} {S : DSt} {f : FSt} {x rl : Addr} (D : DiskF K H0 H d A S) (nn : f.nm ∉ S.fs.map (·.nm)) (hx : H x = none) (hr : H rl = none) (fr : f.runs = [])
    (h1 : ∃ dx, H' x = some (.ins 956 dx (fileFs d f.nm f.size f.hold rl))) (h2 : H' rl = some (.lst [])) (h3 : H' A.fd = some (.dK (filesKv S.fs A.fa ++ [(.inr f.nm, .ref x)]))) (oth : ∀ c o, H c = some o → c ≠ A.fd → H' c = some o) :
    DiskF K H0 H' d { A with fa := A.fa ++ [(x, rl)] } { S with fs := S.fs ++ [f] } := by
  have k1 := D.disk.dict
  have t1 : ∀ ys, H A.fd ≠ some (.tup ys) := fun ys z => by rw [k1] at z; cases z
  have t2 : ∀ o ys, H A.fd ≠ some (.frz o (.tup ys)) := fun o ys z => by rw [k1] at z; cases z
  have sq : ∀ {t : Addr} {xs : List V}, SqT K H t xs → SqT K H' t xs := fun h => sqT_else t1 t2 t1 t2 (fun c o hc hn _ => oth c o hc hn) h
  have fl := paired_len D.disk.files
  refine ⟨⟨?_, ?_, ?_, ?_, ?_, ?_⟩, fun b hb => ?_, fun b o hb ho => ?_, fun p hp => ?_, D.nt⟩
  · exact oth _ _ D.disk.ins (fun z => by have := D.disk.ins; rw [z, k1] at this; cases this)
  · obtain ⟨dy, t, b1, b2, b3⟩ := D.disk.book
    exact ⟨dy, t, oth _ _ b1 (fun z => by rw [z, k1] at b1; cases b1), sq b2, b3⟩
  · show H' A.fd = some (.dK (filesKv (S.fs ++ [f]) (A.fa ++ [(x, rl)])))
    rw [kv_app fl]
    exact h3
  · refine paired_snoc ⟨h1, [], h2, by rw [fr]; exact .nil⟩ (paired_mono D.disk.files fun c g r => ?_)
    obtain ⟨⟨dx, r1⟩, ws, r2, r3⟩ := r
    refine ⟨⟨dx, oth _ _ r1 fun z => by rw [z, k1] at r1; cases r1⟩, ws, oth _ _ r2 (fun z => by rw [z, k1] at r2; cases r2), paired_mono r3 fun v p z => ?_⟩
    obtain ⟨t, y1, y2⟩ := z
    exact ⟨t, y1, sq y2⟩
  · show ((A.fa ++ [(x, rl)]).map (·.1)).Nodup
    rw [List.map_append]
    refine List.nodup_append.mpr ⟨D.disk.nd1, by simp, fun c hc e he => ?_⟩
    obtain ⟨y, hy, ey⟩ := List.mem_map.mp hc
    obtain ⟨i, hi⟩ := List.getElem?_of_mem hy
    obtain ⟨g, _, ⟨dx, r1⟩, _⟩ := paired_at D.disk.files hi
    have ee : e = x := by simpa using he
    rw [ee, ← ey]
    exact ne_of_none r1 hx
  · show ((A.fa ++ [(x, rl)]).map (·.2)).Nodup
    rw [List.map_append]
    refine List.nodup_append.mpr ⟨D.disk.nd2, by simp, fun c hc e he => ?_⟩
    obtain ⟨y, hy, ey⟩ := List.mem_map.mp hc
    obtain ⟨i, hi⟩ := List.getElem?_of_mem hy
    obtain ⟨g, _, _, ws, r2, _⟩ := paired_at D.disk.files hi
    have ee : e = rl := by simpa using he
    rw [ee, ← ey]
    exact ne_of_none r2 hr
  · have hb' : b = d ∨ b = A.fd ∨ b ∈ (A.fa ++ [(x, rl)]).map (·.1) ∨ b ∈ (A.fa ++ [(x, rl)]).map (·.2) := by
      unfold foot at hb
      simpa only [List.mem_cons, List.mem_append] using hb
    have fo : ∀ c, (c = d ∨ c = A.fd ∨ c ∈ A.fa.map (·.1) ∨ c ∈ A.fa.map (·.2)) → H0 c = none := fun c hc => D.out c (by unfold foot; simp only [List.mem_cons, List.mem_append]; exact hc)
    rcases hb' with e | e | e | e
    · exact fo b (.inl e)
    · exact fo b (.inr (.inl e))
    · rw [List.map_append] at e
      rcases List.mem_append.mp e with e | e
      · exact fo b (.inr (.inr (.inl e)))
      · have : b = x := by simpa using e
        rw [this]; exact D.new hx
    · rw [List.map_append] at e
      rcases List.mem_append.mp e with e | e
      · exact fo b (.inr (.inr (.inr e)))
      · have : b = rl := by simpa using e
        rw [this]; exact D.new hr
  · by_cases z : b = A.fd
    · have := D.out A.fd (by unfold foot; simp)
      rw [z, this] at hb
      cases hb
    · exact oth _ _ (D.ext b o hb ho) z
  · obtain ⟨ps, q1, q2, q3⟩ := D.tab p hp
    refine ⟨ps, oth _ _ q1 (fun z => by rw [z, k1] at q1; cases q1), q2, fun pos cv hc => ?_⟩
    obtain ⟨c, e1, e2⟩ := q3 pos cv hc
    exact ⟨c, e1, oth _ _ e2 (fun z => by rw [z, k1] at e2; cases e2)⟩
section
variable {P : Program} {w : World} {K : PySem.W.Frag} {mg : Str → Option Value} {base : Heap}
theorem ok_Disk_twin (T : Txt K mg) : MetC P w K mg base 9 1105 "twin" (spTwinD K) := by
  refine metC_of T.f_Disk_twin T.c_Disk T.m_Disk_twin sc_Disk_twin (fun _ _ _ _ _ _ us hl => match us, hl with | [_], _ => rfl) (fun vs H Q E h => by obtain ⟨d, A1, S, rfl, hd, hfs, ok, q⟩ := h; rfl) fun cdv A outer s H vs Q E hr h => ?_
  obtain ⟨d, A1, S, rfl, hd, hfs, ok, q⟩ := h
  refine ⟨_, (pss_cons (ps_set (i := 1) sc_Disk_twin.nd rfl (Or.inr rfl) (pe_mkk (ok_Disk_all T) hr (by decide) rfl (pa_cons (pe_fld (pv 0) rfl) pa_nil) (pk_cons (pe_fld (pv 0) rfl) (pk_cons (pe_fld (pv 0) rfl) (pk_cons (pe_fld (pv 0) rfl) (pk_cons (pe_fld (pv 0) rfl) (pk_cons (pe_fld (pv 0) rfl) pk_nil)))))))
  (pss_cons (ps_fld (pv 1) (pe_fld (pv 0) rfl) rfl)
  (pss_cons (ps_lock (ps_fld (pv 1) (pe_dc (own := [("name", 2), ("file", 3)]) (g := (gTup K 2 (gCons (gName 2) (gCons (gName 3) gNil)))) rfl sc_Disk_twin.nd (pi_items (pe_fld (pv 0) rfl)) (blkOk_by (own := [("name", 2), ("file", 3)]) (N := ["self", "disk", "name", "file"]) (sc := defScope s_Disk_twin) (by decide +kernel)) (fun _ _ _ _ _ => (pg_tup rfl (pgs_cons (pg_name (i := 2) sc_Disk_twin.nd rfl (Or.inl rfl)) (pgs_cons (pg_name (i := 3) sc_Disk_twin.nd rfl (Or.inl rfl)) pgs_nil)))) (fun _ _ _ _ _ => pts_nil) (fun _ _ _ _ _ => pv 2) (fun _ _ _ _ _ => pe_nvr)) rfl))
  (pss_one (ps_ret (pv 1)))))), ?_⟩
  have kv0 : filesKv S.fs A1.fa = [] := by rw [hfs] <;> rfl
  have fa0 : A1.fa = [] := List.eq_nil_of_length_eq_zero (by rw [paired_len hd.files, hfs] <;> rfl)
  refine ⟨_, rfl, _, _, _, _, _, rfl, hd.ins, T.c_Disk, T.n_Disk_own_book, rfl, _, rfl, _, _, _, _, _, rfl, hd.ins, T.c_Disk, T.n_Disk_rule, rfl, _, rfl, _, _, _, _, _, rfl, hd.ins, T.c_Disk, T.n_Disk_size, rfl, _, rfl, _, _, _, _, _, rfl, hd.ins, T.c_Disk, T.n_Disk_short, rfl, _, rfl, _, _, _, _, _, rfl, hd.ins, T.c_Disk, T.n_Disk_back, rfl, _, rfl, _, _, _, _, _, rfl, hd.ins, T.c_Disk, T.n_Disk_late, rfl, rfl, rfl, fun x dx nx nd ne => ?_⟩
  have e1 : Same H (upd (upd H dx (.own x)) x (.ins 1105 dx [])) := fun c o e => by rw [upd_ne (ne_of_none e nx), upd_ne (ne_of_none e nd)]; exact e
  refine ⟨x, dx, A1.bk, S.b, S.rule, S.n, rfl, upd_same, hd.book.keep (same_ext e1), ok.bk, ok.rule, ok.n1, fun H1 bk' fd k1 hfd hx1 hb1 hf1 => ⟨rfl, ?_⟩⟩
  have kH : Same H H1 := fun c o hc => k1 c o (e1 c o hc) (ne_of_none hc nx)
  refine ⟨_, rfl, _, _, _, _, _, rfl, kH _ _ hd.ins, T.c_Disk, T.n_Disk_after, rfl, _, rfl, _, _, _, _, rfl, hx1, T.c_Disk, T.n_Disk_after, (by show 8 < 1000; decide), ?_⟩
  have ex : upd H1 x (.ins 1105 dx (putF "after" (V.int S.after) (diskFs bk' fd S.rule S.n 0))) = upd H1 x (.ins 1105 dx (diskFs bk' fd S.rule S.n S.after)) := rfl
  rw [ex]
  have hdf := hd.dict
  rw [kv0] at hdf
  have xf1 : A1.fd ≠ x := ne_of_none hdf nx
  have hb2 : BookAt K (upd H1 x (.ins 1105 dx (diskFs bk' fd S.rule S.n S.after))) bk' S.b := hb1.putI hx1
  have hx2 : upd H1 x (.ins 1105 dx (diskFs bk' fd S.rule S.n S.after)) x = some (.ins 1105 dx (diskFs bk' fd S.rule S.n S.after)) := upd_same
  have hd2 : upd H1 x (.ins 1105 dx (diskFs bk' fd S.rule S.n S.after)) d = some (.ins 1105 A1.dx (diskFs A1.bk A1.fd S.rule S.n S.after)) := by rw [upd_ne (ne_of_none hd.ins nx)]; exact kH _ _ hd.ins
  have hf2 : upd H1 x (.ins 1105 dx (diskFs bk' fd S.rule S.n S.after)) A1.fd = some (.dK []) := by rw [upd_ne xf1]; exact kH _ _ hdf
  have k2 : ∀ c o, H c = some o → upd H1 x (.ins 1105 dx (diskFs bk' fd S.rule S.n S.after)) c = some o := fun c o hc => by rw [upd_ne (ne_of_none hc nx)]; exact kH c o hc
  generalize upd H1 x (.ins 1105 dx (diskFs bk' fd S.rule S.n S.after)) = H2 at hb2 hx2 hd2 hf2 k2
  have df : d ≠ A1.fd := fun z => by rw [z, hf2] at hd2; cases hd2
  refine ⟨A1.fd, .dK [], hf2, trivial, fun od => ?_⟩
  refine ⟨_, rfl, _, _, _, _, _, rfl, by rw [upd_ne df]; exact hd2, T.c_Disk, T.n_Disk_files, rfl, A1.fd, od, [], rfl, upd_same, fun D hD => ?_⟩
  have fD : A1.fd ≠ D := fun z => by rw [← z, upd_same] at hD; cases hD
  have hD2 : H2 D = none := by rw [upd_ne (Ne.symm fD)] at hD; exact hD
  have xD : x ≠ D := ne_of_none hx2 hD2
  refine ⟨fun i m H' => H' = upd (upd H2 A1.fd (.frz od (.dK []))) D (.dK []), ⟨0, rfl⟩, fun i m H' e => .inl ?_⟩
  subst e
  refine ⟨⟨by rw [upd_ne fD, upd_same], Nat.zero_le _⟩, ?_⟩
  refine ⟨_, rfl, _, _, _, _, rfl, by rw [upd_ne xD, upd_ne (Ne.symm xf1)]; exact hx2, T.c_Disk, T.n_Disk_files, (by show 8 < 1000; decide), ?_⟩
  refine ⟨by rw [upd_ne xf1, upd_ne fD, upd_same], _, rfl, ?_⟩
  have eH : ∀ I : HO, upd (upd (upd (upd H2 A1.fd (.frz od (.dK []))) D (.dK [])) x I) A1.fd (.dK []) = upd (upd H2 D (.dK [])) x I := fun I => by
    rw [upd_swap xf1, upd_swap (a := D) fD, upd_upd, upd_id hf2]
  rw [eH]
  have hI : (HO.ins 1105 dx (putF "files" (V.ref D) (diskFs bk' fd S.rule S.n S.after))) = HO.ins 1105 dx (diskFs bk' D S.rule S.n S.after) := rfl
  rw [hI]
  have sN : Same H (upd (upd H2 D (.dK [])) x (.ins 1105 dx (diskFs bk' D S.rule S.n S.after))) := fun c o hc => by
    rw [upd_ne (ne_of_none hc nx), upd_ne (ne_of_none (k2 c o hc) hD2)]
    exact k2 c o hc
  have hDH : H D = none := by
    cases hz : H D with
    | none => rfl
    | some o =>
      have := k2 D o hz
      rw [hD2] at this
      cases this
  refine q _ x ⟨dx, D, bk', []⟩ sN (fun b hb => ?_) ⟨upd_same, ?_, ?_, ?_, .nil, .nil⟩ rfl
  · have hb' : b = x ∨ b = D := by simpa [foot] using hb
    rcases hb' with e | e
    · rw [e]; exact nx
    · rw [e]; exact hDH
  · exact (hb2.keep (same_ext (same_upd hD2))).putI (dx := dx) (by rw [upd_ne xD]; exact hx2)
  · show upd (upd H2 D (.dK [])) x _ D = some (.dK (filesKv S.fs []))
    rw [upd_ne (Ne.symm xD), upd_same, hfs] <;> rfl
  · show Paired _ [] S.fs
    rw [hfs]
    exact .nil
theorem ok_is_name (T : Txt K mg) : CalC P w K mg base 1 "is_name" spIsName := by
  refine calC_of T.f_is_name T.g_is_name sc_is_name (fun _ _ _ _ _ _ us hl => match us, hl with | [_], _ => rfl) (fun vs H Q E h => by obtain ⟨j, rfl, hj, q⟩ := h; rfl) fun cdv A outer s H vs Q E hr h => ?_
  obtain ⟨j, rfl, hj, q⟩ := h
  refine ⟨_, (pss_cons (ps_if (PW.pt (pw_or (pt_not (pt_val (pe_callB call_isB rfl T.b_isinstance (by decide +kernel) (pa_cons (pv 0) (pa_cons (pe_bltn (v := .ty "str") rfl T.b_str (by decide +kernel) rfl) pa_nil))))) (pw_or1 (pt_not (pt_chain op_le op_le pe_int (pe_callB call_len_str rfl T.b_len (by decide +kernel) (pa_cons (pv 0) pa_nil)) pe_int)))))
    (pss_one (ps_ret pe_bl))
    pss_nil)
  (pss_one (ps_ret (pe_callB (cr_all rfl) rfl T.b_all (by decide +kernel) (pa_cons (pe_lc (own := [("letter", 1)]) (g := (gName 1)) rfl sc_is_name.nd (pi_str (pv 0)) (blkOk_by (own := [("letter", 1)]) (N := ["thing", "letter"]) (sc := defScope s_is_name) (by decide +kernel)) (fun _ _ _ _ _ => (pg_name (i := 1) sc_is_name.nd rfl (Or.inl rfl))) (fun _ _ _ _ _ => pts_nil) (fun _ _ _ _ _ => (pe_cmpR op_in_sign (pv 1) (pe_gs rfl T.v_SMALL) (by with_unfolding_all rfl)))) pa_nil))))), ?_⟩
  refine ⟨_, rfl, _, _, true, rfl, isi_str, true, rfl, iteF ?_⟩
  refine ⟨_, rfl, _, rfl, (by show 1 ≤ sizeLine; decide), _, _, rfl, rfl, true, rfl, iteT ⟨_, _, rfl, rfl, true, rfl, iteF ?_⟩⟩
  refine ⟨_, rfl, nm j, rfl, fun D hD => ?_⟩
  refine lc_it (walk_str (z := nm j)) (fun i H2 => Same H H2 ∧ H2 D = some (.lst (List.replicate i (V.bl true)))) ?_ ?_ ?_ ?_
  · exact ⟨same_upd hD, upd_same⟩
  · exact fun _ _ _ _ => trivial
  · rintro i x H2 H3 hi ⟨s2, hl⟩ ⟨rfl, c, hc, rfl⟩
    have hi1 : i < 1 := hi
    have i0 : i = 0 := by omega
    subst i0
    have ec : c = 97 + j := (Option.some.inj hc).symm
    refine ⟨rfl, yes_i ⟨_, rfl, c, _, rfl, rfl, _, hl, (by show 0 < sizeLine; decide), ?_, ?_⟩⟩
    · exact fun b o hb => by rw [upd_ne (ne_of_none hb hD)]; exact s2 b o hb
    · rw [upd_same, ec, small_mem hj] <;> rfl
  · rintro H2 ⟨s2, hl⟩
    refine ⟨D, [true], rfl, SqL.of hl, q H2 s2⟩
theorem ok_Disk_open_file (T : Txt K mg) : MetC P w K mg base 3 1105 "open_file" (spGet K) := by
  refine metC_of T.f_Disk_open_file T.c_Disk T.m_Disk_open_file sc_Disk_open_file (fun _ _ _ _ _ _ us hl => match us, hl with | [_, _], _ => rfl) (fun vs H Q E h => by obtain ⟨d, A1, S, nm, j, f, a, rfl, hd, nd, hj, ha, e, q⟩ := h; rfl) fun cdv A outer s H vs Q E hr h => ?_
  obtain ⟨d, A1, S, nm, j, f, a, rfl, hd, nd, hj, ha, e, q⟩ := h
  refine ⟨_, (pss_cons (ps_set (i := 2) sc_Disk_open_file.nd rfl (Or.inl rfl) (pe_getO (ok_Disk_getitem T) hr (by decide) (pv 0) (pv 1)))
  (pss_cons (ps_if (pt_not (pt_val (pe_fld (pv 2) rfl)))
    (pss_one ps_never)
    pss_nil)
  (pss_one (ps_ret (pv 2))))), ?_⟩
  obtain ⟨g, hg, ⟨dx, h1⟩, h2⟩ := paired_at hd.files ha
  refine ⟨_, rfl, _, rfl, d, A1.dx, _, rfl, hd.ins, d, A1, S, nm, j, f, a, rfl, hd, nd, hj, ha, e, ?_⟩
  exact ⟨_, rfl, _, _, _, _, _, rfl, h1, T.c_File, T.n_File_is_open, rfl, true, rfl, iteF ⟨_, rfl, q⟩⟩
theorem ok_Disk_make (T : Txt K mg) : MetC P w K mg base 4 1105 "make" (spMake K) := by
  refine metC_of T.f_Disk_make T.c_Disk T.m_Disk_make sc_Disk_make (fun _ _ _ _ _ _ us hl => match us, hl with | [_, _], _ => rfl) (fun vs H Q E h => by obtain ⟨H0, d, A1, S, j, rfl, D, hnm, hj, hlen, q⟩ := h; rfl) fun cdv A outer s H vs Q E hr h => ?_
  obtain ⟨H0, d, A1, S, j, rfl, D, hnm, hj, hlen, q⟩ := h
  have hu := hu_of hr
  refine ⟨_, (pss_cons (ps_if (pt_not (pt_val (pe_cc (ok_is_name T) hr (by decide) rfl (pa_cons (pv 1) pa_nil))))
    (pss_one ps_never)
    pss_nil)
  (pss_cons (ps_if (pt_cmp (pc_din hu (pv 1) (pe_fld (pv 0) rfl)))
    (pss_one ps_never)
    pss_nil)
  (pss_one (ps_dput hu (pe_fld (pv 0) rfl) (pv 1) (pe_mkc (ok_File_init T) hr (by decide) rfl (pa_cons (pv 0) (pa_cons (pv 1) pa_nil))) rfl)))), ?_⟩
  refine ⟨_, rfl, j, rfl, hj, fun H1 s1 => ⟨true, rfl, iteF ?_⟩⟩
  have D1 := D.same s1
  refine ⟨_, rfl, _, rfl, _, _, _, _, _, rfl, D1.disk.ins, T.c_Disk, T.n_Disk_files, rfl, A1.fd, _, rfl, DGet.k (k := Sum.inr (nm j)) D1.disk.dict, _, rfl, ?_⟩
  rw [kv_none D1.disk.files hnm]
  refine iteF ?_
  refine ⟨_, rfl, _, rfl, fun x dx nx nd ne => ?_⟩
  have e1 : Same H1 (upd (upd H1 dx (.own x)) x (.ins 956 dx [])) := fun c o e => by rw [upd_ne (ne_of_none e nx), upd_ne (ne_of_none e nd)]; exact e
  refine ⟨x, dx, d, nm j, rfl, upd_same, fun rl hrl => ⟨rfl, ?_⟩⟩
  have xr : x ≠ rl := fun z => by rw [← z, upd_same] at hrl; cases hrl
  have hr1 : H1 rl = none := by
    cases hz : H1 rl with
    | none => rfl
    | some o =>
      have := e1 rl o hz
      rw [hrl] at this
      cases this
  have s2 : Same H1 (upd (upd (upd (upd H1 dx (.own x)) x (.ins 956 dx [])) rl (.lst [])) x (.ins 956 dx (fileFs d (nm j) 0 0 rl))) := fun c o e => by
    rw [upd_ne (ne_of_none e nx), upd_ne (ne_of_none e hr1)]
    exact e1 c o e
  have hx2 : upd (upd (upd (upd H1 dx (.own x)) x (.ins 956 dx [])) rl (.lst [])) x (.ins 956 dx (fileFs d (nm j) 0 0 rl)) x = some (.ins 956 dx (fileFs d (nm j) 0 0 rl)) := upd_same
  have hr2 : upd (upd (upd (upd H1 dx (.own x)) x (.ins 956 dx [])) rl (.lst [])) x (.ins 956 dx (fileFs d (nm j) 0 0 rl)) rl = some (.lst []) := by rw [upd_ne (Ne.symm xr), upd_same]
  generalize upd (upd (upd (upd H1 dx (.own x)) x (.ins 956 dx [])) rl (.lst [])) x (.ins 956 dx (fileFs d (nm j) 0 0 rl)) = H2 at s2 hx2 hr2
  have D2 := D1.same s2
  have fl := paired_len D.disk.files
  have kl : (filesKv S.fs A1.fa).length < sizeLine := by
    unfold filesKv
    rw [List.length_zipWith, sizeLine_eq]
    omega
  have xf : A1.fd ≠ x := ne_of_none D1.disk.dict nx
  have rf : A1.fd ≠ rl := ne_of_none D1.disk.dict hr1
  refine ⟨_, rfl, _, _, _, _, _, rfl, D2.disk.ins, T.c_Disk, T.n_Disk_files, rfl, _, rfl, A1.fd, _, rfl, DPut.k (k := Sum.inr (nm j)) D2.disk.dict kl, ?_⟩
  rw [putK_new (kv_key (fa := A1.fa) hnm)]
  exact q _ _ (D1.addFile (f := ⟨nm j, 0, 0, []⟩) hnm nx hr1 rfl ⟨dx, by rw [upd_ne (Ne.symm xf)]; exact hx2⟩ (by rw [upd_ne (Ne.symm rf)]; exact hr2) upd_same fun c o hc hne => by rw [upd_ne hne]; exact s2 c o hc)
theorem fn_Refused_init (T : Txt K mg) {fd : FuncData} (Fn : FunD K "__init__" "Refused.__init__" (defArgs s_Refused_init) (defBody s_Refused_init) (defScope s_Refused_init) [] [] 257 fd) : FnOk P w K mg base CX0 1 257 fd ["self", "name", "need"] spRefI := by
  refine okC Fn sc_Refused_init (fun vs H Q E h => by obtain ⟨a, z, n, rfl, ha, q⟩ := h; rfl) fun cdv A outer s H vs Q E hr h => ?_
  obtain ⟨a, z, n, rfl, ha, q⟩ := h
  refine ⟨_, pss_cons (ps_ost (pv 0) (pv 1)) (pss_one (ps_ost (pv 0) (pv 2))), ?_⟩
  refine ⟨_, rfl, _, rfl, a, 260, rfl, T.x_Refused, T.xn_name, .inl ⟨ha, fun dx hdx hne => ?_⟩⟩
  refine ⟨_, rfl, _, rfl, a, 260, rfl, T.x_Refused, T.xn_need, .inr ⟨dx, _, upd_same, by rw [upd_ne hne, upd_same], by show 1 ≤ 900; decide, ?_⟩⟩
  have e : ∀ o1 o2 o3 : HO, upd (upd (upd H dx o1) a o2) dx o3 = upd (upd H dx o3) a o2 := fun o1 o2 o3 => by rw [upd_swap (b := dx) (a := a) hne, upd_upd]
  rw [e]
  exact q dx hdx hne
theorem ok_Refused_init (T : Txt K mg) : ∃ (fd : FuncData) (ps : List Str), FnOk P w K mg base CX0 1 257 fd ps spRefI ∧ Binds K fd ps [] := by
  obtain ⟨fd, Fn⟩ := T.f_Refused_init
  exact ⟨fd, _, fn_Refused_init T Fn, Fn.bindsN (fun _ _ _ _ _ _ us hl => match us, hl with | [_, _, _], _ => rfl)⟩
end
end Gt
/-! ## GfD5 -/
set_option Elab.async false
set_option linter.all false
set_option maxRecDepth 100000
set_option maxHeartbeats 4000000
namespace Gt
open PySem PySem.Spec PyProof.Rows L2 Wm GenW
/-! ### growth -/
def spWritten (K : PySem.W.Frag) : Sp := fun vs H Q E => ∃ (H0 : Hp) (d : Addr) (A : DA) (S : DSt) (j : Nat) (f : FSt) (a : Addr × Addr) (many : Int), vs = [.ref d, .ref a.1, .int many] ∧ DiskF K H0 H d A S ∧ DOk S ∧ S.fs[j]? = some f ∧ A.fa[j]? = some a ∧ (0 ≤ many ∧ many ≤ 1000) ∧
  (∀ H' S' v, DiskF K H0 H' d A S' → DOk S' → Nx S j many S' → Q (.int v) H') ∧ (∀ H' dd, Gf.growA S.b S.n (absS S) j many = none → DiskF K H0 H' d A S → H' dd = some (.xd [("need", .int (f.size + many - f.hold)), ("name", .str f.nm)]) → E (.ref 260) (some dd) H')
def spGrowD (K : PySem.W.Frag) : Sp := fun vs H Q E => ∃ (H0 : Hp) (d : Addr) (A : DA) (S : DSt) (j : Nat) (f : FSt) (nm : Str) (many : Int), vs = [.ref d, .str nm, .int many] ∧ DiskF K H0 H d A S ∧ DOk S ∧ S.fs[j]? = some f ∧ f.nm = nm ∧ (0 ≤ many ∧ many ≤ 1000) ∧
  (∀ H' S' v, DiskF K H0 H' d A S' → DOk S' → Nx S j many S' → Q (.int v) H') ∧ (∀ H' dd, Gf.growA S.b S.n (absS S) j many = none → DiskF K H0 H' d A S → H' dd = some (.xd [("need", .int (f.size + many - f.hold)), ("name", .str nm)]) → E (.ref 260) (some dd) H')
theorem fr_bound {n : Int} {L F R : List (Int × Int)} (fo : Gf.FreeOk n L F) (g : Gf.GiveOk F R) (ap : Gf.Apart n L) : ∀ r ∈ R, 0 ≤ r.1 ∧ r.1 + r.2 ≤ n := fun r hr => (ap.give fo g).bound (r := r) (List.mem_append_right _ hr)
theorem hold_mem : ∀ {fs : List FSt} {j : Nat} {f : FSt}, fs[j]? = some f → (∀ g ∈ fs, 0 ≤ g.hold) → f.hold ≤ Gf.holds (fs.map fun f => (f.size, f.hold))
  | [], _, _, h, _ => by simp at h
  | g :: fs, 0, f, h, p => by
    have e := Option.some.inj h
    subst e
    have h1 := hold_nn (fs := fs) fun q hq => p q (List.mem_cons_of_mem _ hq)
    show g.hold ≤ Gf.holds ((g.size, g.hold) :: fs.map fun f => (f.size, f.hold))
    rw [hold_cons]
    omega
  | g :: fs, j + 1, f, h, p => by
    have h' : fs[j]? = some f := h
    have h1 := hold_mem h' fun q hq => p q (List.mem_cons_of_mem _ hq)
    have h2 := p g List.mem_cons_self
    show f.hold ≤ Gf.holds ((g.size, g.hold) :: fs.map fun f => (f.size, f.hold))
    rw [hold_cons]
    omega
where
  hold_cons {p : Gf.FS} {l : List Gf.FS} : Gf.holds (p :: l) = p.2 + Gf.holds l := by simp [Gf.holds]
  hold_nn : ∀ {fs : List FSt}, (∀ g ∈ fs, 0 ≤ g.hold) → 0 ≤ Gf.holds (fs.map fun f => (f.size, f.hold))
    | [], _ => Int.le_refl _
    | g :: fs, h => by
      have h1 := hold_nn fun q hq => h q (List.mem_cons_of_mem _ hq)
      have h2 := h g List.mem_cons_self
      show 0 ≤ Gf.holds ((g.size, g.hold) :: fs.map fun f => (f.size, f.hold))
      rw [hold_cons]
      omega
theorem sum_pair {a b : Int} : ([a, b] : List Int).sum = a + b := by simp
section
variable {P : Program} {w : World} {K : PySem.W.Frag} {mg : Str → Option Value} {base : Heap}
theorem ok_Disk_written_behind (T : Txt K mg) (TB : LamX.TabB base mg 688 684) : MetX P w K mg base 9 1105 "written_behind" (spWritten K) := by
  refine metX_of T.f_Disk_written_behind T.c_Disk T.m_Disk_written_behind sc_Disk_written_behind (fun _ _ _ _ _ _ us hl => match us, hl with | [_, _, _], _ => rfl) (fun vs H Q E h => by obtain ⟨H0, d, A1, S, j, f, a, many, rfl, D, ok, hf, ha, hm, q, qe⟩ := h; rfl) fun cdv A outer s H vs Q E hr h => ?_
  obtain ⟨H0, d, A1, S, j, f, a, many, rfl, D, ok, hf, ha, hm, q, qe⟩ := h
  obtain ⟨fdR, psR, FR, bR⟩ := ok_Refused_init (P := P) (w := w) (base := base) T
  refine ⟨_, (pss_cons (ps_set (i := 3) sc_Disk_written_behind.nd rfl (Or.inl rfl) (pe_op op_sub (pe_op op_add (pe_fld (pv 1) rfl) (pv 2)) (pe_fld (pv 1) rfl)))
  (pss_cons (ps_if (pt_cmpR op_le (pv 3) pe_int (nomark _))
    (pss_cons (ps_fldaug (pv 1) (pv 2) in_add)
    (pss_one (ps_ret pe_int)))
    pss_nil)
  (pss_cons (ps_set (i := 4) sc_Disk_written_behind.nd rfl (Or.inl rfl) (pe_mtc0 (ok_Disk_free T TB).c hr (by decide) (pv 0)))
  (pss_cons (ps_set (i := 5) sc_Disk_written_behind.nd rfl (Or.inl rfl) (pe_callF (ok_Book_call T) hr (by decide) (pv 0) (pa_cons (pe_fld (pv 1) rfl) (pa_cons (pv 3) pa_nil))))
  (pss_cons (ps_set (i := 6) sc_Disk_written_behind.nd rfl (Or.inl rfl) pe_int)
  (C8.pss_cut (ps_if (pt_cmpR op_gt (pe_callB call_len_seq rfl T.b_len (by decide +kernel) (pa_cons (pe_fld (pv 1) rfl) pa_nil)) pe_int (nomark _))
    (pss_one (ps_set (i := 6) sc_Disk_written_behind.nd rfl (Or.inl rfl) (pe_callB (cr_sumT rfl) rfl T.b_sum (by decide +kernel) (pa_cons (pe_ix (r := rIxL K) ix_list (pe_fld (pv 1) rfl) (pe_un un_neg pe_int) (fun _ _ => rfl)) pa_nil))))
    (pss_one (ps_if (pt_truO (ok_Room_bool T) hr (by decide) (pv 4))
      (pss_one (ps_set (i := 6) sc_Disk_written_behind.nd rfl (Or.inl rfl) (pe_ix (r := rIxT K) ix_tup (pe_ix (r := rIxL K) ix_list (pe_mtc0 (ok_Room_runs T) hr (by decide) (pv 4)) pe_int (fun _ _ => rfl)) pe_int (fun _ _ => rfl))))
      pss_nil)))
  (pss_cons (ps_set (i := 7) sc_Disk_written_behind.nd rfl (Or.inl rfl) (pe_ck (ok_placed T) hr (by decide) rfl (pa_cons (pe_fld (pv 0) rfl) (pa_cons (pv 4) (pa_cons (pv 5) pa_nil))) (pk_cons (pv 6) (pk_cons (pe_fld (pv 0) rfl) (pk_cons (pe_fld (pv 0) rfl) (pk_cons (pv 3) pk_nil))))))
  (pss_cons (ps_if (pt_cmp (pc_isN (pv 7)))
    (pss_one (L2N.ps_raise rfl (L2N.takes_of rfl rfl rfl rfl) (pmk_oexN T.x_Refused T.xi_Refused T.xt_Refused FR hr (by decide) bR rfl T.g_Refused (pa_cons (pe_fld (pv 1) rfl) (pa_cons (pv 3) pa_nil)))))
    pss_nil)
  (pss_cons (ps_expr (pe_mtc (ok_File_put_behind T) hr (by decide) (pv 1) (pa_cons (pv 7) pa_nil)))
  (pss_cons (ps_fldaug (pv 1) (pv 2) in_add)
  (pss_cons (ps_fld (pv 0) (pe_callB (cr_sumT rfl) rfl T.b_sum (by decide +kernel) (pa_cons (pe_ix (r := rIxL K) ix_list (pv 7) (pe_un un_neg pe_int) (fun _ _ => rfl)) pa_nil)) rfl)
  (pss_one (ps_ret (pe_callB (cr_sum rfl) rfl T.b_sum (by decide +kernel) (pa_cons (pe_lc (own := [("start", 8), ("length", 9)]) (g := (gTup K 2 (gCons (gName 8) (gCons (gName 9) gNil)))) rfl sc_Disk_written_behind.nd (pi_list (pv 7)) (blkOk_by (own := [("start", 8), ("length", 9)]) (N := ["self", "file", "many", "need", "free", "asked", "behind", "runs", "start", "length"]) (sc := defScope s_Disk_written_behind) (by decide +kernel)) (fun _ _ _ _ _ => (pg_tup rfl (pgs_cons (pg_name (i := 8) sc_Disk_written_behind.nd rfl (Or.inl rfl)) (pgs_cons (pg_name (i := 9) sc_Disk_written_behind.nd rfl (Or.inl rfl)) pgs_nil)))) (fun _ _ _ _ _ => pts_nil) (fun _ _ _ _ _ => (pv 9))) pa_nil))))))))))))))), ?_⟩
  have n1 := ok.n1
  have hbk := bk_ok D.disk.book ok.bk
  have zf := ok.sz f (List.mem_of_getElem? hf)
  have hold_le : f.hold ≤ 300 := by
    have h1 := ok.sum f (List.mem_of_getElem? hf)
    have h2 := ok.tot
    have h3 : f.hold ≤ Gf.holds (absS S) := hold_mem hf (fun g hg => by have := ok.sz g hg; omega)
    omega
  obtain ⟨g0, hg0, ⟨dxf, hfa⟩, hrl⟩ := paired_at D.disk.files ha
  rw [hf] at hg0
  have eg := Option.some.inj hg0
  subst eg
  refine ⟨_, rfl, _, _, _, _, _, rfl, hfa, T.c_File, T.n_File_size, rfl, _, rfl, _, _, rfl, rfl, _, rfl, _, _, _, _, _, rfl, hfa, T.c_File, T.n_File_hold, rfl, _, _, rfl, rfl, ?_⟩
  refine ⟨_, rfl, _, _, rfl, rfl, _, rfl, if2 (fun c => ?_) (fun c => ?_)⟩
  · refine ⟨_, rfl, _, _, _, _, _, rfl, hfa, T.c_File, T.n_File_size, rfl, _, rfl, _, _, rfl, rfl, _, _, hfa, (by show 7 < 1000; decide), ?_⟩
    obtain ⟨o2, nx⟩ := ok.more hf hm.1 c
    have fa2 : a.1 ≠ a.2 := fun z => by obtain ⟨ws, h1, _⟩ := hrl; rw [z, h1] at hfa; cases hfa
    refine q _ _ 0 (D.setFile hf ha (f' := { f with size := f.size + many }) rfl ⟨dxf, upd_same⟩ ?_ fun c o hc h1 _ => by rw [upd_ne h1]; exact hc) o2 nx
    obtain ⟨ws, h1, h2⟩ := hrl
    refine ⟨ws, by rw [upd_ne (Ne.symm fa2)]; exact h1, paired_mono h2 fun v p z => ?_⟩
    obtain ⟨t, y1, y2⟩ := z
    exact ⟨t, y1, sqT_put (fun ys z => by rw [hfa] at z; cases z) (fun o ys z => by rw [hfa] at z; cases z) y2⟩
  · refine ⟨_, rfl, d, A1.dx, _, rfl, D.disk.ins, rfl, d, A1, S, rfl, D.disk, ok, D.tab, fun H1 z Fr e1 t1 fo fl hz => ?_⟩
    have D1 := D.keep e1 t1
    have hfa1 : H1 a.1 = some (.ins 956 dxf (fileFs d f.nm f.size f.hold a.2)) := keep_ins e1 hfa
    have hrl1 := hrl.keep e1
    clear hfa hrl
    have hfa := hfa1
    obtain ⟨dyb, tb, hbk1, hbk2⟩ := id D1.disk.book
    refine ⟨_, rfl, d, _, A1.dx, _, A1.bk, rfl, D1.disk.ins, T.c_Disk, T.n_Disk_own_book, rfl, _, rfl, _, _, _, _, _, rfl, hfa, T.c_File, T.n_File_hold, rfl, _, rfl, ⟨dyb, _, hbk1⟩, A1.bk, S.b, f.hold, _, rfl, D1.disk.book, by omega, by omega, ?_⟩
    obtain ⟨asked, hask⟩ : ∃ asked, asked = (if Gf.stepB S.b f.hold > f.size + many - f.hold then Gf.stepB S.b f.hold else f.size + many - f.hold) := ⟨_, rfl⟩
    have askb : f.size + many - f.hold ≤ asked ∧ asked ≤ 1000000 := by
      have := Gf.step_roof hbk f.hold
      have := ok.bk
      rw [hask]
      split <;> omega
    rw [← hask]
    obtain ⟨ws, hws, hwp⟩ := id hrl1
    have wl := paired_len hwp
    rw [List.length_map] at wl
    have fin : f ∈ S.fs := List.mem_of_getElem? hf
    have inall : ∀ r ∈ f.runs, r ∈ allR S := fun r hr => List.mem_flatMap.mpr ⟨f, fin, hr⟩
    refine ⟨fun σ' H' => ∃ bh x7 x8 x9, σ' = [some (.ref d), some (.ref a.1), some (.int many), some (.int (f.size + many - f.hold)), some (.ref z), some (.int asked), some (.int bh), x7, x8, x9] ∧ Same H1 H' ∧ 0 ≤ bh ∧ bh ≤ 1000000, ?_, ?_⟩
    · refine ⟨_, rfl, _, _, _, _, _, rfl, hfa, T.c_File, T.n_File_runs_held, rfl, _, _, rfl, .inl (SqL.of hws), _, _, rfl, rfl, _, rfl, if2 (fun c1 => ?_) (fun c1 => ?_)⟩
      · rcases List.eq_nil_or_concat f.runs with hF | ⟨F0, p0, hF⟩
        · rw [hF] at wl
          have wl' : ws.length = 0 := wl
          omega
        · rw [List.concat_eq_append] at hF
          have al : ws.length = F0.length + 1 := by rw [wl, hF, List.length_append, List.length_singleton]
          rw [hF] at hwp
          obtain ⟨v0, hv0, t0, rfl, ht0⟩ := paired_at' (i := F0.length) (b := so p0) hwp (by rw [List.map_append, List.getElem?_append_right (by rw [List.length_map]; exact Nat.le_refl _), List.length_map, Nat.sub_self] <;> rfl)
          have pb := ok.ap.bound (inall p0 (by rw [hF]; simp))
          have pl := ok.ap.len p0 (inall p0 (by rw [hF]; simp))
          refine ⟨_, rfl, _, _, _, _, _, rfl, hfa, T.c_File, T.n_File_runs_held, rfl, _, rfl, a.2, ws, _, .ref t0, rfl, rfl, SqL.of hws, atI_end al hv0, t0, [p0.1, p0.2], rfl, ht0, ?_⟩
          rw [sum_pair]
          exact ⟨p0.1 + p0.2, _, _, _, rfl, Same.refl _, by omega, by omega⟩
      · obtain ⟨dz, dzp, hz1, hz2⟩ := id hz
        refine ⟨_, rfl, z, dz, _, rfl, hz1, z, Fr.map so, rfl, hz, _, rfl, if2 (fun c2 => ?_) (fun c2 => ?_)⟩
        · refine ⟨_, rfl, z, dz, _, rfl, hz1, rfl, z, Fr, rfl, hz, by omega, fun H2 lr s2 _ hlr => ?_⟩
          obtain ⟨xs, hxs, hxp⟩ := hlr
          cases hFr : Fr with
          | nil =>
            rw [hFr] at c2
            exact absurd c2 (by decide)
          | cons p Fr' =>
            rw [hFr] at hxp
            have hr0 : ((Gf.runsM (p :: Fr')).map so)[0]? = some (so (p.1, p.2 - p.1)) := rfl
            obtain ⟨v0, hv0, t0, rfl, ht0⟩ := paired_at' hxp hr0
            have pp := fo.pos p (by rw [hFr]; simp)
            exact ⟨lr, xs, _, .ref t0, rfl, rfl, SqL.of hxs, atI_nat (j := 0) hv0, t0, _, _, _, rfl, rfl, ht0, atI_nat (j := 0) rfl, p.1, _, _, _, rfl, s2, by omega, by omega⟩
        · exact ⟨0, _, _, _, rfl, Same.refl _, by omega, by omega⟩
    · rintro σ' H2 ⟨bh, x7, x8, x9, rfl, s2, hb0, hb1⟩
      have D2 := D1.same s2
      refine ⟨_, rfl, _, _, _, _, _, rfl, D2.disk.ins, T.c_Disk, T.n_Disk_rule, rfl, _, rfl, _, rfl, _, rfl, _, rfl, _, _, _, _, _, rfl, D2.disk.ins, T.c_Disk, T.n_Disk_after, rfl, _, rfl, _, _, _, _, _, rfl, D2.disk.ins, T.c_Disk, T.n_Disk_short, rfl, _, rfl, rfl, rfl, S.rule, z, Fr, asked, bh, S.after, f.size + many - f.hold, rfl, ok.rule, hz.keep (same_ext s2), fl, (fun p hp => (fo.pos p hp).2.1), ⟨hb0, hb1⟩, ok.af, ⟨by omega, askb.1, askb.2⟩, fun H3 s3 hno => ?_, fun H3 dR R s3 hdn hle gv hsum hne hlen hR => ?_⟩
      · have D3 := D2.same s3
        have hfa3 := s3 _ _ (s2 _ _ hfa)
        refine ⟨_, rfl, _, rfl, ifT rfl ?_⟩
        refine ⟨_, rfl, _, _, _, _, _, rfl, hfa3, T.c_File, T.n_File_name, rfl, _, rfl, (by show 2 ≤ 1000; decide), fun ae hae => ⟨ae, f.nm, f.size + many - f.hold, rfl, upd_same, fun dd hdd hdne => ⟨rfl, dd, _, upd_same, by rw [upd_ne hdne, upd_same], ?_, ?_⟩⟩⟩
        · rw [upd_ne hdne] at hdd
          exact hdd
        · have hdd3 : H3 dd = none := by rw [upd_ne hdne] at hdd; exact hdd
          have sE : Same H3 (upd (del (upd (upd (upd H3 ae (exo ae 260 none)) dd (exd dd [("need", .int (f.size + many - f.hold)), ("name", .str f.nm)])) ae (exo ae 260 (some dd))) ae) dd (.xd [("need", .int (f.size + many - f.hold)), ("name", .str f.nm)])) := fun c o hc => by
            have h1 := ne_of_none hc hae
            have h2 := ne_of_none hc hdd3
            rw [upd_ne h2, del_ne h1, upd_ne h1, upd_ne h2, upd_ne h1]
            exact hc
          exact qe _ dd (grow_none ok hf c fo hno) (D3.same sE) upd_same
      · have D3 := D2.same s3
        have hfa3 := s3 _ _ (s2 _ _ hfa)
        have hrl3 := (hrl1.keep (same_ext s2)).keep (same_ext s3)
        have dne : dR ≠ a.2 := fun e => by rw [e, s2 _ _ hws] at hdn; cases hdn
        have rlen : f.runs.length ≤ 1000 := by
          have h1 := runs_count (L := f.runs) fun r hr => ok.ap.len r (inall r hr)
          have h2 := ok.sum f fin
          omega
        refine ⟨_, rfl, _, rfl, ifF (fun e => by cases e) ?_⟩
        refine ⟨_, rfl, a.1, dxf, _, rfl, hfa3, rfl, _, rfl, a.1, dxf, d, a.2, dR, f.nm, f.size, f.hold, f.runs, R, rfl, hfa3, hrl3, hR, dne, rlen, hlen, fun H4 h4a h4r oth => ?_⟩
        refine ⟨_, rfl, _, _, _, _, _, rfl, h4a, T.c_File, T.n_File_size, rfl, _, rfl, _, _, rfl, rfl, _, _, h4a, (by show 7 < 1000; decide), ?_⟩
        have e5 : upd H4 a.1 (.ins 956 dxf (putF "size" (V.int (f.size + many)) (fileFs d f.nm f.size (f.hold + Gf.sumR R) a.2))) = upd H4 a.1 (.ins 956 dxf (fileFs d f.nm (f.size + many) (f.hold + Gf.sumR R) a.2)) := rfl
        rw [e5]
        have aa : a.1 ≠ a.2 := fun e => by rw [e, s3 _ _ (s2 _ _ hws)] at hfa3; cases hfa3
        have da1 : dR ≠ a.1 := fun e => by
          obtain ⟨xs, h1, _⟩ := hR
          rw [e, hfa3] at h1
          cases h1
        have oth5 : ∀ c o, H3 c = some o → c ≠ a.1 → c ≠ a.2 → upd H4 a.1 (.ins 956 dxf (fileFs d f.nm (f.size + many) (f.hold + Gf.sumR R) a.2)) c = some o := fun c o hc h1 h2 => by rw [upd_ne h1]; exact oth c o hc h1 h2
        have h5a : upd H4 a.1 (.ins 956 dxf (fileFs d f.nm (f.size + many) (f.hold + Gf.sumR R) a.2)) a.1 = some (.ins 956 dxf (fileFs d f.nm (f.size + many) (f.hold + Gf.sumR R) a.2)) := upd_same
        have h5r : PairsL K (upd H4 a.1 (.ins 956 dxf (fileFs d f.nm (f.size + many) (f.hold + Gf.sumR R) a.2))) a.2 ((Gf.putM f.runs R).map so) := by
          obtain ⟨vs, v1, v2⟩ := h4r
          refine ⟨vs, by rw [upd_ne (Ne.symm aa)]; exact v1, paired_mono v2 fun v p y => ?_⟩
          obtain ⟨t, y1, y2⟩ := y
          exact ⟨t, y1, sqT_put (fun ys e => by rw [h4a] at e; cases e) (fun o ys e => by rw [h4a] at e; cases e) y2⟩
        have hR5 : PairsL K (upd H4 a.1 (.ins 956 dxf (fileFs d f.nm (f.size + many) (f.hold + Gf.sumR R) a.2))) dR (R.map so) := by
          obtain ⟨xs, h1, h2⟩ := hR
          refine ⟨xs, oth5 _ _ h1 da1 dne, paired_mono h2 fun v p y => ?_⟩
          obtain ⟨t, y1, y2⟩ := y
          exact ⟨t, y1, sqT_else (fun ys e => by rw [hfa3] at e; cases e) (fun o ys e => by rw [hfa3] at e; cases e) (fun ys e => by rw [s3 _ _ (s2 _ _ hws)] at e; cases e) (fun o ys e => by rw [s3 _ _ (s2 _ _ hws)] at e; cases e) oth5 y2⟩
        have D5 := D3.setFile hf ha (f' := { f with size := f.size + many, hold := f.hold + Gf.sumR R, runs := Gf.putM f.runs R }) rfl ⟨dxf, h5a⟩ h5r oth5
        generalize upd H4 a.1 (.ins 956 dxf (fileFs d f.nm (f.size + many) (f.hold + Gf.sumR R) a.2)) = H5 at D5 hR5
        obtain ⟨xs, hxs, hxp⟩ := hR5
        have xl := paired_len hxp
        rw [List.length_map] at xl
        rcases List.eq_nil_or_concat R with hF | ⟨R0, rr, hF⟩
        · exact absurd hF hne
        · rw [List.concat_eq_append] at hF
          have al : xs.length = R0.length + 1 := by rw [xl, hF, List.length_append, List.length_singleton]
          have hxp' := hxp
          rw [hF] at hxp'
          obtain ⟨v0, hv0, t0, rfl, ht0⟩ := paired_at' (i := R0.length) (b := so rr) hxp' (by rw [List.map_append, List.getElem?_append_right (by rw [List.length_map]; exact Nat.le_refl _), List.length_map, Nat.sub_self] <;> rfl)
          have rin : rr ∈ R := by rw [hF]; simp
          have rb := fr_bound fo gv ok.ap rr rin
          have rl := gv.len rr rin
          refine ⟨_, rfl, _, rfl, dR, xs, _, .ref t0, rfl, rfl, SqL.of hxs, atI_end al hv0, t0, [rr.1, rr.2], rfl, ht0, _, rfl, _, _, _, _, rfl, D5.disk.ins, T.c_Disk, T.n_Disk_after, (by show 8 < 1000; decide), ?_⟩
          rw [sum_pair]
          have D6 := D5.setAfter (af := rr.1 + rr.2)
          have e6 : upd H5 d (.ins 1105 A1.dx (putF "after" (V.int (rr.1 + rr.2)) (diskFs A1.bk A1.fd (setF S j { f with size := f.size + many, hold := f.hold + Gf.sumR R, runs := Gf.putM f.runs R }).rule (setF S j { f with size := f.size + many, hold := f.hold + Gf.sumR R, runs := Gf.putM f.runs R }).n (setF S j { f with size := f.size + many, hold := f.hold + Gf.sumR R, runs := Gf.putM f.runs R }).after))) = upd H5 d (.ins 1105 A1.dx (diskFs A1.bk A1.fd S.rule S.n (rr.1 + rr.2))) := rfl
          have dd5 := D5.disk.ins
          have hR6 : PairsL K (upd H5 d (.ins 1105 A1.dx (diskFs A1.bk A1.fd S.rule S.n (rr.1 + rr.2)))) dR (R.map so) := by
            refine ⟨xs, by rw [upd_ne (fun e => by rw [e, dd5] at hxs; cases hxs)]; exact hxs, paired_mono hxp fun v p y => ?_⟩
            obtain ⟨t, y1, y2⟩ := y
            exact ⟨t, y1, sqT_put (fun ys e => by rw [dd5] at e; cases e) (fun o ys e => by rw [dd5] at e; cases e) y2⟩
          have D6' : DiskF K H0 (upd H5 d (.ins 1105 A1.dx (diskFs A1.bk A1.fd S.rule S.n (rr.1 + rr.2)))) d A1 { setF S j { f with size := f.size + many, hold := f.hold + Gf.sumR R, runs := Gf.putM f.runs R } with after := rr.1 + rr.2 } := D6
          have e6' := e6
          clear D6 e6
          rw [e6']
          generalize upd H5 d (.ins 1105 A1.dx (diskFs A1.bk A1.fd S.rule S.n (rr.1 + rr.2))) = H6 at D6' hR6
          obtain ⟨ys, hys, hyp⟩ := hR6
          have yl := paired_len hyp
          rw [List.length_map] at yl
          refine ⟨_, rfl, dR, rfl, ⟨_, SqL.of hys⟩, fun L hL => ?_⟩
          refine lc_list (K := K) (a := dR) (xs := ys) (fun i H' => Same H6 H' ∧ H' L = some (.lst ((R.take i).map fun r => V.int r.2))) ?_ ?_ ?_ ?_
          · exact ⟨same_upd hL, upd_same⟩
          · rintro i H' _ ⟨s7, _⟩
            exact SqL.of (s7 _ _ hys)
          · rintro i x H' hx ⟨s7, hl⟩
            obtain ⟨r, t, hr1, rfl, ht⟩ := so_at hyp hx
            have il : i < ys.length := (List.getElem?_eq_some_iff.mp hx).1
            refine ⟨t, _, rfl, sqT_keep (same_ext s7) ht, rfl, _, _, rfl, _, _, rfl, rfl, rfl, yes_i ⟨_, rfl, _, hl, ?_, fun b o hb => ?_, ?_⟩⟩
            · rw [List.length_map, List.length_take, sizeLine_eq]; omega
            · rw [upd_ne (ne_of_none hb hL)]; exact s7 b o hb
            · rw [upd_same, take_snoc hr1, List.map_append] <;> rfl
          · rintro H' ⟨s7, hl⟩
            rw [yl, List.take_length] at hl
            obtain ⟨og, ng⟩ := ok.give (af := rr.1 + rr.2) (g := Gf.sumR R) hf hm.1 c fo gv hle rfl (by rw [hsum, hask]) (by omega)
            exact ⟨L, R.map (·.2), rfl, SqL.of (by rw [List.map_map]; exact hl), q H' _ _ (D6'.same s7) og ng⟩
theorem ok_Disk_grow (T : Txt K mg) (TB : LamX.TabB base mg 688 684) : MetX P w K mg base 10 1105 "grow" (spGrowD K) := by
  refine metX_of T.f_Disk_grow T.c_Disk T.m_Disk_grow sc_Disk_grow (fun _ _ _ _ _ _ us hl => match us, hl with | [_, _, _], _ => rfl) (fun vs H Q E h => by obtain ⟨H0, d, A1, S, j, f, nm, many, rfl, D, ok, hf, e, hm, q, qe⟩ := h; rfl) fun cdv A outer s H vs Q E hr h => ?_
  obtain ⟨H0, d, A1, S, j, f, nm, many, rfl, D, ok, hf, e, hm, q, qe⟩ := h
  refine ⟨_, (pss_cons (ps_set (i := 3) sc_Disk_grow.nd rfl (Or.inl rfl) (pe_getO (ok_Disk_getitem T) hr (by decide) (pv 0) (pv 1)))
  (pss_cons (ps_expr (pe_cc (ok_check_integer T) hr (by decide) rfl (pa_cons (pv 2) (pa_cons pe_int (pa_cons (pe_gi rfl T.v_MOST_GROWTH) pa_nil)))))
  (pss_cons (ps_set (i := 3) sc_Disk_grow.nd rfl (Or.inl rfl) (pe_mtc (ok_Disk_open_file T) hr (by decide) (pv 0) (pa_cons (pv 1) pa_nil)))
  (pss_cons (ps_if (pt_val (pe_fld (pv 0) rfl))
    (pss_cons (ps_fldaug (pv 3) (pv 2) in_add)
    (pss_one (ps_ret pe_int)))
    pss_nil)
  (pss_one (ps_ret (pe_mtx (ok_Disk_written_behind T TB) hr (by decide) (L2N.passes_call (L2N.takes_of rfl rfl rfl rfl) (fun _ _ _ _ h => h)) (pv 0) (pa_cons (pv 3) (pa_cons (pv 2) pa_nil))))))))), ?_⟩
  obtain ⟨a, ha, ⟨dxf, hfa⟩, hrl⟩ := paired_at' D.disk.files hf
  refine ⟨_, rfl, _, rfl, d, A1.dx, _, rfl, D.disk.ins, d, A1, S, nm, j, f, a, rfl, D.disk, ok.nd, hf, ha, e, ?_⟩
  refine ⟨_, rfl, _, _, _, rfl, hm.1, by omega, ?_⟩
  refine ⟨_, rfl, d, A1.dx, _, rfl, D.disk.ins, rfl, _, rfl, d, A1, S, nm, j, f, a, rfl, D.disk, ok.nd, hf, ha, e, ?_⟩
  refine ⟨_, rfl, _, _, _, _, _, rfl, D.disk.ins, T.c_Disk, T.n_Disk_late, rfl, false, rfl, iteF ?_⟩
  refine ⟨_, rfl, d, A1.dx, _, rfl, D.disk.ins, rfl, _, rfl, _, rfl, H0, d, A1, S, j, f, a, many, rfl, D, ok, hf, ha, hm, q, ?_⟩
  rw [e]
  exact qe
end
end Gt
/-! ## GfD6 -/
set_option Elab.async false
set_option linter.all false
set_option maxRecDepth 100000
set_option maxHeartbeats 4000000
namespace Gt
open PySem PySem.Spec PyProof.Rows L2 Wm GenW
/-! ### events, do -/
def EvOk : Ev → Prop
  | .mk j => j < 8
  | .gr j m => j < 8 ∧ 0 ≤ m ∧ m ≤ 1000
def spIsEv (K : PySem.W.Frag) : Sp := fun vs H Q _ => ∃ (t : Addr) (e : Ev), vs = [.ref t] ∧ SqT K H t (evT e) ∧ EvOk e ∧ ∀ H', Same H H' → Q (.bl true) H'
def spDo (K : PySem.W.Frag) : Sp := fun vs H Q _ => ∃ (H0 : Hp) (d : Addr) (A : DA) (S : DSt) (t : Addr) (e : Ev), vs = [.ref d, .ref t] ∧ DiskF K H0 H d A S ∧ DOk S ∧ SqT K H t (evT e) ∧ EvOk e ∧ (match e with
  | .mk j => nm j ∉ S.fs.map (·.nm) ∧ ∀ H' A', DiskF K H0 H' d A' { S with fs := S.fs ++ [⟨nm j, 0, 0, []⟩] } → Q .non H'
  | .gr j m => ∃ f, S.fs[j]? = some f ∧ f.nm = nm j ∧ Gf.growA S.b S.n (absS S) j m ≠ none ∧ ∀ H' S' v, DiskF K H0 H' d A S' → DOk S' → Nx S j m S' → Q (.int v) H')
def spCheckR (K : PySem.W.Frag) : Sp := fun vs H Q _ => ∃ (r : Addr) (evs : List Ev), vs = [.ref r] ∧ RowEV K H r evs ∧ evs.length ≤ 10000 ∧ (∀ e ∈ evs, EvOk e) ∧ ∀ H', Same H H' → Q .non H'
theorem ev_str {e : Ev} : ∃ w j r, evT e = .str w :: .str (nm j) :: r ∧ (EvOk e → j < 8) := by
  cases e with
  | mk j => exact ⟨_, j, [], rfl, fun h => h⟩
  | gr j m => exact ⟨_, j, [.int m], rfl, fun h => h.1⟩
section
variable {P : Program} {w : World} {K : PySem.W.Frag} {mg : Str → Option Value} {base : Heap}
theorem ok_is_event (T : Txt K mg) : CalC P w K mg base 2 "is_event" (spIsEv K) := by
  refine calC_of T.f_is_event T.g_is_event sc_is_event (fun _ _ _ _ _ _ us hl => match us, hl with | [_], _ => rfl) (fun vs H Q E h => by obtain ⟨t, e, rfl, ht, he, q⟩ := h; rfl) fun cdv A outer s H vs Q E hr h => ?_
  obtain ⟨t, e, rfl, ht, he, q⟩ := h
  refine ⟨_, (pss_cons (ps_if (PW.pt (pw_or (pt_not (pt_val (pe_callB call_isB rfl T.b_isinstance (by decide +kernel) (pa_cons (pv 0) (pa_cons (pe_bltn (v := .ty "tuple") rfl T.b_tuple (by decide +kernel) rfl) pa_nil))))) (pw_or1 (pt_not (pt_chain op_le op_le pe_int (pe_callB call_len_seq rfl T.b_len (by decide +kernel) (pa_cons (pv 0) pa_nil)) pe_int)))))
    (pss_one (ps_ret pe_bl))
    pss_nil)
  (pss_cons (ps_if (PW.pt (pw_or (pt_not (pt_val (pe_callB call_isB rfl T.b_isinstance (by decide +kernel) (pa_cons (pe_ix (r := rIxT K) ix_tup (pv 0) pe_int (fun _ _ => rfl)) (pa_cons (pe_bltn (v := .ty "str") rfl T.b_str (by decide +kernel) rfl) pa_nil))))) (pw_or1 (pt_not (pt_val (pe_cc (ok_is_name T) hr (by decide) rfl (pa_cons (pe_ix (r := rIxT K) ix_tup (pv 0) pe_int (fun _ _ => rfl)) pa_nil)))))))
    (pss_one (ps_ret pe_bl))
    pss_nil)
  (pss_cons (ps_if (pt_cmpR op_eq (pe_callB call_len_seq rfl T.b_len (by decide +kernel) (pa_cons (pv 0) pa_nil)) pe_int (nomark _))
    (pss_one (ps_ret (pe_and (pe_cmpR op_in_seq (pe_ix (r := rIxT K) ix_tup (pv 0) pe_int (fun _ _ => rfl)) (pe_tup (pa_cons pe_str (pa_cons pe_str pa_nil))) (by with_unfolding_all rfl)) (pe_one (pe_cc (ok_is_integer T).c hr (by decide) rfl (pa_cons (pe_ix (r := rIxT K) ix_tup (pv 0) pe_int (fun _ _ => rfl)) (pa_cons pe_int (pa_cons (pe_gi rfl T.v_MOST_GROWTH) pa_nil))))))))
    pss_nil)
  (pss_one (ps_ret (pe_cmpR op_in_seq (pe_ix (r := rIxT K) ix_tup (pv 0) pe_int (fun _ _ => rfl)) (pe_gr rfl T.v_WORDS) (by with_unfolding_all rfl))))))), ?_⟩
  refine ⟨_, rfl, _, _, true, rfl, isi_tup ht, true, rfl, iteF ?_⟩
  cases e with
  | mk j =>
    refine ⟨_, rfl, _, _, rfl, .inr ht, _, _, rfl, rfl, true, rfl, iteT ⟨_, _, rfl, rfl, true, rfl, iteF ?_⟩⟩
    refine ⟨_, rfl, _, _, _, _, rfl, rfl, ht, atI_nat (j := 0) rfl, _, _, true, rfl, isi_str, true, rfl, iteF ?_⟩
    refine ⟨_, rfl, _, _, _, _, rfl, rfl, ht, atI_nat (j := 1) rfl, j, rfl, he, fun H1 s1 => ⟨true, rfl, iteF ?_⟩⟩
    have ht1 := sqT_keep (same_ext s1) ht
    refine ⟨_, rfl, _, _, rfl, .inr ht1, rfl, _, rfl, iteF ?_⟩
    refine ⟨_, rfl, _, _, _, _, rfl, rfl, ht1, atI_nat (j := 0) rfl, _, _, rfl, .inr (T.t_WORDS H1), rfl, by decide +kernel, ?_⟩
    exact q H1 s1
  | gr j m =>
    refine ⟨_, rfl, _, _, rfl, .inr ht, _, _, rfl, rfl, true, rfl, iteT ⟨_, _, rfl, rfl, true, rfl, iteF ?_⟩⟩
    refine ⟨_, rfl, _, _, _, _, rfl, rfl, ht, atI_nat (j := 0) rfl, _, _, true, rfl, isi_str, true, rfl, iteF ?_⟩
    refine ⟨_, rfl, _, _, _, _, rfl, rfl, ht, atI_nat (j := 1) rfl, j, rfl, he.1, fun H1 s1 => ⟨true, rfl, iteF ?_⟩⟩
    have ht1 := sqT_keep (same_ext s1) ht
    refine ⟨_, rfl, _, _, rfl, .inr ht1, rfl, _, rfl, iteT ?_⟩
    refine ⟨_, rfl, _, _, _, _, rfl, rfl, ht1, atI_nat (j := 0) rfl, (by show 2 ≤ sizeLine; decide), fun pp hp => ⟨_, _, rfl, .inr (SqT.of upd_same), rfl, by decide +kernel, true, rfl, iteT ?_⟩⟩
    have s2 : Same H1 (upd H1 pp (.tup [.str "grow", .str "ones"])) := same_upd hp
    exact ⟨_, rfl, _, _, _, _, rfl, rfl, sqT_keep (same_ext s2) ht1, atI_nat (j := 2) rfl, _, _, _, rfl, he.2.1, by have := he.2.2; omega, q _ (s1.trans s2)⟩
theorem ok_check_row (T : Txt K mg) : CalC P w K mg base 3 "check_row" (spCheckR K) := by
  refine calC_of T.f_check_row T.g_check_row sc_check_row (fun _ _ _ _ _ _ us hl => match us, hl with | [_], _ => rfl) (fun vs H Q E h => by obtain ⟨r, evs, rfl, ⟨xs, hxs, hp⟩, hl, hev, q⟩ := h; rfl) fun cdv A outer s H vs Q E hr h => ?_
  obtain ⟨r, evs, rfl, ⟨xs, hxs, hp⟩, hl, hev, q⟩ := h
  refine ⟨_, (pss_cons (ps_if (PW.pt (pw_or (pt_not (pt_val (pe_callB call_isB rfl T.b_isinstance (by decide +kernel) (pa_cons (pv 0) (pa_cons (pe_bltn (v := .ty "list") rfl T.b_list (by decide +kernel) rfl) pa_nil))))) (pw_or1 (pt_cmpR op_gt (pe_callB call_len_seq rfl T.b_len (by decide +kernel) (pa_cons (pv 0) pa_nil)) (pe_gi rfl T.v_MOST_EVENTS) (nomark _)))))
    (pss_one ps_never)
    pss_nil)
  (pss_one (ps_for PassesOwn.never rfl (pi_enum rfl T.b_enumerate (pa_cons (pv 0) pa_nil)) (pg_tup rfl (pgs_cons (pg_name (i := 1) sc_check_row.nd rfl (Or.inl rfl)) (pgs_cons (pg_name (i := 2) sc_check_row.nd rfl (Or.inl rfl)) pgs_nil)))
    (pss_one (ps_if (pt_not (pt_val (pe_cc (ok_is_event T) hr (by decide) rfl (pa_cons (pv 2) pa_nil))))
      (pss_one ps_never)
      pss_nil))))), ?_⟩
  have xl := paired_len hp
  refine ⟨_, rfl, _, _, true, rfl, isi_lst hxs, true, rfl, iteF ?_⟩
  refine ⟨_, rfl, _, _, rfl, .inl (SqL.of hxs), _, _, rfl, rfl, _, rfl, ifF (by omega) ?_⟩
  refine ⟨_, rfl, r, _, rfl, SqL.of hxs, ?_⟩
  refine for_it (walk_enum (K := K) (a := r) (xs := xs)) (fun i σ H' => (∃ x1 x2, σ = [some (.ref r), x1, x2]) ∧ Same H H') ?_ ?_ ?_ ?_
  · exact ⟨⟨_, _, rfl⟩, Same.refl _⟩
  · rintro i σ H1 _ ⟨_, s⟩
    exact SqL.of (s _ _ hxs)
  · rintro i y σ H1 H2 hi ⟨⟨x1, x2, rfl⟩, s⟩ ⟨T2, xa, xb, rfl, hT2, rfl, hxa, hxb⟩
    have hxb : xs[i]? = some xb := hxb
    obtain ⟨e, he, t, rfl, ht⟩ := paired_at hp hxb
    have s2 : Same H (upd H1 T2 (.tup [xa, .ref t])) := s.trans (same_upd hT2)
    refine ⟨T2, _, rfl, SqT.of upd_same, rfl, _, _, rfl, _, _, rfl, rfl, ?_⟩
    exact ⟨_, rfl, t, e, rfl, sqT_keep (same_ext s2) ht, hev e (List.mem_of_getElem? he), fun H3 s3 => ⟨true, rfl, iteF ⟨⟨_, _, rfl⟩, s2.trans s3⟩⟩⟩
  · rintro σ H1 ⟨⟨x1, x2, rfl⟩, s⟩
    exact q H1 s
theorem ok_Disk_do (T : Txt K mg) (TB : LamX.TabB base mg 688 684) : MetC P w K mg base 11 1105 "do" (spDo K) := by
  refine metC_of T.f_Disk_do T.c_Disk T.m_Disk_do sc_Disk_do (fun _ _ _ _ _ _ us hl => match us, hl with | [_, _], _ => rfl) (fun vs H Q E h => by obtain ⟨H0, d, A1, S, t, e, rfl, D, ok, ht, he, h⟩ := h; rfl) fun cdv A outer s H vs Q E hr h => ?_
  obtain ⟨H0, d, A1, S, t, e, rfl, D, ok, ht, he, h⟩ := h
  refine ⟨_, (pss_cons (ps_if (pt_not (pt_val (pe_cc (ok_is_event T) hr (by decide) rfl (pa_cons (pv 1) pa_nil))))
    (pss_one ps_never)
    pss_nil)
  (pss_cons (ps_asg (pe_slice sl_tupA (pv 1) po_none (po_some pe_int)) (pg_tup rfl (pgs_cons (pg_name (i := 2) sc_Disk_do.nd rfl (Or.inl rfl)) (pgs_cons (pg_name (i := 3) sc_Disk_do.nd rfl (Or.inl rfl)) pgs_nil))))
  (pss_cons (ps_if (pt_cmpR op_eq (pv 2) pe_str (nomark _))
    (pss_one (ps_ret (pe_mtx (ok_Disk_grow T TB) hr (by decide) passN0 (pv 0) (pa_cons (pv 3) (pa_cons (pe_ix (r := rIxT K) ix_tup (pv 1) pe_int (fun _ _ => rfl)) pa_nil)))))
    pss_nil)
  (pss_cons (ps_if (pt_cmpR op_eq (pv 2) pe_str (nomark _))
    (pss_one ps_never)
    pss_nil)
  (pss_cons (ps_if (pt_cmpR op_eq (pv 2) pe_str (nomark _))
    (pss_one (ps_ret (pe_mtc (ok_Disk_make T) hr (by decide) (pv 0) (pa_cons (pv 3) pa_nil))))
    pss_nil)
  (pss_cons (ps_if (pt_cmpR op_eq (pv 2) pe_str (nomark _))
    (pss_one ps_never)
    pss_nil)
  (pss_cons (ps_if (pt_cmpR op_eq (pv 2) pe_str (nomark _))
    (pss_one ps_never)
    pss_nil)
  (pss_cons (ps_if (pt_cmpR op_eq (pv 2) pe_str (nomark _))
    (pss_one ps_never)
    pss_nil)
  (pss_one ps_never))))))))), ?_⟩
  refine ⟨_, rfl, t, e, rfl, ht, he, fun H1 s1 => ⟨true, rfl, iteF ?_⟩⟩
  have D1 := D.same s1
  have ht1 := sqT_keep (same_ext s1) ht
  cases e with
  | mk j =>
    obtain ⟨hn, q⟩ := h
    refine ⟨_, rfl, _, rfl, t, _, rfl, ht1, fun _ => ?_, fun z => absurd (by show HT.sIx 2 0 none = 0 ∧ HT.sIx 2 2 (some 2) = 2; decide) z⟩
    refine ⟨t, _, rfl, ht1, rfl, _, _, rfl, _, _, rfl, rfl, ?_⟩
    refine ⟨_, rfl, rfl, _, rfl, ifF (by decide) ?_⟩
    refine ⟨_, rfl, rfl, _, rfl, ifF (by decide) ?_⟩
    refine ⟨_, rfl, rfl, _, rfl, ifT (by decide) ?_⟩
    exact ⟨_, rfl, d, A1.dx, _, rfl, D1.disk.ins, rfl, _, rfl, H0, d, A1, S, j, rfl, D1, hn, he, ok.len, q⟩
  | gr j m =>
    obtain ⟨f, hf, e, hg, q⟩ := h
    refine ⟨_, rfl, _, rfl, t, _, rfl, ht1, fun z => absurd z (by show ¬ (HT.sIx 3 0 none = 0 ∧ HT.sIx 3 3 (some 2) = 3); decide), fun _ p2 hp2 => ?_⟩
    have s2 : Same H1 (upd H1 p2 (.tup (cutV (evT (.gr j m)) none (some 2)))) := same_upd hp2
    have hp3 : SqT K (upd H1 p2 (.tup (cutV (evT (.gr j m)) none (some 2)))) p2 [.str "grow", .str (nm j)] := SqT.of upd_same
    have D2 := D1.same s2
    have ht2 := sqT_keep (same_ext s2) ht1
    generalize upd H1 p2 (.tup (cutV (evT (.gr j m)) none (some 2))) = H2 at hp3 D2 ht2
    refine ⟨p2, _, rfl, hp3, rfl, _, _, rfl, _, _, rfl, rfl, ?_⟩
    refine ⟨_, rfl, rfl, _, rfl, ifT (by decide) ?_⟩
    refine ⟨_, rfl, d, A1.dx, _, rfl, D2.disk.ins, rfl, _, rfl, _, rfl, _, _, _, _, rfl, rfl, ht2, atI_nat (j := 2) rfl, H0, d, A1, S, j, f, nm j, m, rfl, D2, ok, hf, e, he.2, q, fun H' dd hn _ _ => absurd hn hg⟩
end
end Gt
/-! ## GfD7 -/
set_option Elab.async false
set_option linter.all false
set_option maxRecDepth 100000
set_option maxHeartbeats 4000000
namespace Gt
open PySem PySem.Spec PyProof.Rows L2 Wm GenW
/-! ### a row is played -/
def Named (S : DSt) : Prop := S.fs.map (·.nm) = (List.range S.fs.length).map nm
def aStep (b : Gf.Bk) (n : Int) (st : List Gf.FS) : Ev → Option (List Gf.FS)
  | .mk j => if j = st.length then some (st ++ [(0, 0)]) else none
  | .gr j m => if j < st.length then Gf.growA b n st j m else none
def aPlay (b : Gf.Bk) (n : Int) (st : List Gf.FS) : List Ev → Option (List Gf.FS)
  | [] => some st
  | e :: r => match aStep b n st e with
    | some st' => aPlay b n st' r
    | none => none
theorem abs_len {S : DSt} : (absS S).length = S.fs.length := List.length_map _
theorem nm_inj {i j : Nat} (h : nm i = nm j) : i = j := by
  have : (nm i).cps = (nm j).cps := congrArg (·.cps) h
  have : (nm i).cps.toList = (nm j).cps.toList := congrArg (·.toList) this
  have e : [97 + i] = [97 + j] := this
  have := (List.cons.inj e).1
  omega
theorem Named.at_ {S : DSt} (h : Named S) {j : Nat} {f : FSt} (hf : S.fs[j]? = some f) : f.nm = nm j := by
  have h1 : (S.fs.map (·.nm))[j]? = some f.nm := by rw [List.getElem?_map, hf] <;> rfl
  have hl : j < S.fs.length := (List.getElem?_eq_some_iff.mp hf).1
  have h' : S.fs.map (·.nm) = (List.range S.fs.length).map nm := h
  rw [h', List.getElem?_map, List.getElem?_range hl] at h1
  exact (Option.some.inj h1).symm
theorem Named.new {S : DSt} (h : Named S) : nm S.fs.length ∉ S.fs.map (·.nm) := by
  have h' : S.fs.map (·.nm) = (List.range S.fs.length).map nm := h
  rw [h']
  intro z
  obtain ⟨i, hi, e⟩ := List.mem_map.mp z
  have := List.mem_range.mp hi
  have := nm_inj e
  omega
theorem DOk.made {S : DSt} (o : DOk S) (h : Named S) (hl : S.fs.length < 8) : DOk { S with fs := S.fs ++ [⟨nm S.fs.length, 0, 0, []⟩] } ∧ Named { S with fs := S.fs ++ [⟨nm S.fs.length, 0, 0, []⟩] } ∧ absS { S with fs := S.fs ++ [⟨nm S.fs.length, 0, 0, []⟩] } = absS S ++ [(0, 0)] := by
  have hall : allR { S with fs := S.fs ++ [⟨nm S.fs.length, 0, 0, []⟩] } = allR S := by
    unfold allR
    rw [List.flatMap_append]
    simp
  have hab : absS { S with fs := S.fs ++ [⟨nm S.fs.length, 0, 0, []⟩] } = absS S ++ [(0, 0)] := by
    unfold absS
    rw [List.map_append] <;> rfl
  refine ⟨⟨?_, fun f hf => ?_, fun f hf => ?_, ?_, o.af, o.n1, o.bk, o.rule, ?_, ?_⟩, ?_, hab⟩
  · rw [hall]
    exact o.ap
  · rcases List.mem_append.mp hf with z | z
    · exact o.sum f z
    · rw [List.mem_singleton.mp z] <;> rfl
  · rcases List.mem_append.mp hf with z | z
    · exact o.sz f z
    · rw [List.mem_singleton.mp z]
      exact ⟨Int.le_refl _, Int.le_refl _⟩
  · rw [hab, Gf.holds_append]
    have := o.tot
    show Gf.holds (absS S) + (0 + 0) ≤ S.n
    omega
  · show ((S.fs ++ [(⟨nm S.fs.length, 0, 0, []⟩ : FSt)]).map (·.nm)).Nodup
    rw [List.map_append]
    refine List.nodup_append.mpr ⟨o.nd, by simp, fun c hc e he => ?_⟩
    have ee : e = nm S.fs.length := by simpa using he
    rw [ee]
    exact fun z => h.new (by rw [← z]; exact hc)
  · show (S.fs ++ [(⟨nm S.fs.length, 0, 0, []⟩ : FSt)]).length ≤ 8
    rw [List.length_append, List.length_singleton]
    omega
  · show (S.fs ++ [(⟨nm S.fs.length, 0, 0, []⟩ : FSt)]).map (·.nm) = (List.range (S.fs ++ [(⟨nm S.fs.length, 0, 0, []⟩ : FSt)]).length).map nm
    rw [List.length_append, List.length_singleton, List.range_succ, List.map_append, List.map_append]
    have h' : S.fs.map (·.nm) = (List.range S.fs.length).map nm := h
    rw [h'] <;> rfl
theorem Nx.named {S S' : DSt} {j : Nat} {m : Int} (h : Named S) (x : Nx S j m S') : Named S' := by
  have e := x.2.2.2.1
  have l : S'.fs.length = S.fs.length := by
    have := congrArg List.length e
    rw [List.length_map, List.length_map] at this
    exact this
  have h' : S.fs.map (·.nm) = (List.range S.fs.length).map nm := h
  show S'.fs.map (·.nm) = (List.range S'.fs.length).map nm
  rw [e, h', l]
def spSteps (K : PySem.W.Frag) : SpN := fun vs H N Q => ∃ (H0 : Hp) (d r : Addr) (A : DA) (S : DSt) (evs : List Ev) (st : List Gf.FS), vs = [.ref d, .ref r] ∧ DiskF K H0 H d A S ∧ DOk S ∧ Named S ∧ RowEV K H0 r evs ∧ evs.length ≤ 1000 ∧ N = evs.length ∧ (∀ e ∈ evs, EvOk e) ∧ aPlay S.b S.n (absS S) evs = some st ∧
  ∀ H' A' S', DiskF K H0 H' d A' S' → DOk S' → Named S' → S'.b = S.b → S'.n = S.n → S'.rule = S.rule → absS S' = st → Q H'
section
variable {P : Program} {w : World} {K : PySem.W.Frag} {mg : Str → Option Value} {base : Heap}
theorem takes0N {X : Cx} : L2N.Takes X (fun _ _ _ _ => False) := fun _ _ x => by
  obtain ⟨_, _, _, _, _, _, _, _, _, _, _, _, _, _, _, _, z⟩ := x
  exact z.elim
abbrev t1S (K : PySem.W.Frag) : TS := tAsg (tMeth 1105 "do" (spDo K) [] E0 (tVar 0) (tCons (tVar 3) tNil)) (gName 4)
abbrev t2S : TS := tAsg (tC (.int 0)) (gName 6)
abbrev evNm (K : PySem.W.Frag) : TE := tOp (rIxT K) (tVar 3) (tC (.int 1))
abbrev t3S (K : PySem.W.Frag) : TS := tIfS (tTest (tOp (fun x y H Q => ∃ d dx fs, y = .ref d ∧ H d = some (.ins 1105 dx fs) ∧ spIn K [.ref d, x] H (fun v H' => ∃ b, v = .bl b ∧ Q (.bl b) H') E0) (evNm K) (tVar 0)))
  (tAsg (tCB (fun xs H Q => ∃ p ys, xs = [.ref p] ∧ (SqL K H p ys ∨ SqT K H p ys) ∧ Q (.int ys.length) H) (tCons (tMeth 956 "pieces" (spPieces K) [] E0 (fun σ H Q => tVar 0 σ H fun x H1 => evNm K σ H1 fun y H2 => ∃ d dx fs, x = .ref d ∧ H2 d = some (.ins 1105 dx fs) ∧ spGet K [.ref d, y] H2 Q E0) tNil) tNil)) (gName 6)) tNext
abbrev teS : TE := tTup (tCons (tVar 3) (tCons (tVar 4) (tCons (tVar 6) tNil)))
theorem steps_tail {K : PySem.W.Frag} {d r t : Addr} {num v : V} {x5 x6 : Option V} {H3 : Hp} {A2 : DA} {S2 : DSt} {j : Nat} {w : Str} {rest : List V} (dk : DiskAt K H3 d A2 S2) (nd : (S2.fs.map (·.nm)).Nodup) (n2 : Named S2) (jl : j < S2.fs.length) (ht : SqT K H3 t (.str w :: .str (nm j) :: rest))
    (Wn : L2.St → Hp → Prop) (hW : ∀ x6' H6, Same H3 H6 → Wn [some (.ref d), some (.ref r), some num, some (.ref t), some v, x5, x6'] H6) :
    t2S { nx := fun σ4 H4 => t3S K { nx := fun σ5 H5 => teS σ5 H5 fun _ H6 => Wn σ5 H6, rt := fun _ _ => False } σ4 H4, rt := fun _ _ => False } [some (.ref d), some (.ref r), some num, some (.ref t), some v, x5, x6] H3 := by
  have hj : S2.fs[j]? = some (S2.fs[j]'jl) := List.getElem?_eq_getElem jl
  obtain ⟨f, hf⟩ : ∃ f, S2.fs[j]? = some f := ⟨_, hj⟩
  have fn : f.nm = nm j := n2.at_ hf
  obtain ⟨a, ha, ⟨dxf, hfa⟩, hrl⟩ := paired_at' dk.files hf
  refine ⟨_, rfl, t, _, _, _, rfl, rfl, ht, atI_nat (j := 1) rfl, _, rfl, d, A2.dx, _, rfl, dk.ins, d, A2, S2, nm j, rfl, dk, fun _ => ⟨true, rfl, true, rfl, iteT ?_⟩, fun z => absurd (List.mem_map.mpr ⟨f, List.mem_of_getElem? hf, fn⟩) z, nd⟩
  refine ⟨_, rfl, _, rfl, t, _, _, _, rfl, rfl, ht, atI_nat (j := 1) rfl, d, A2.dx, _, rfl, dk.ins, d, A2, S2, nm j, j, f, a, rfl, dk, nd, hf, ha, fn, ?_⟩
  refine ⟨a.1, dxf, _, rfl, hfa, rfl, a.1, dxf, d, a.2, f.nm, f.size, f.hold, f.runs, rfl, hfa, hrl, fun H5 l s5 hl hp => ?_⟩
  obtain ⟨ys, hys, _⟩ := hp
  refine ⟨l, ys, rfl, .inl (SqL.of hys), ?_⟩
  exact ⟨_, rfl, _, rfl, _, rfl, (by show 3 ≤ sizeLine; decide), fun p hp => hW _ _ (s5.trans (same_upd hp))⟩
theorem ok_steps_on (T : Txt K mg) (TB : LamX.TabB base mg 688 684) : ∃ (fd : FuncData) (ps : List Str), GFnL P w K mg base 12 1123 fd ps (spSteps K) ∧ Binds K fd ps [] ∧ PySem.W.keepIn K (.ref 1123) = true := by
  obtain ⟨fd, Fn⟩ := T.f_steps_on
  refine ⟨fd, _, gfnL_of Fn sc_steps_on (fun vs H n Q h => by obtain ⟨H0, d, r, A, S, evs, st, rfl, _⟩ := h; rfl) (fun n => rfl) (fun cdv A outer s H vs n Q pn hr h => ?_) (fun env x e => rfl) (fun env e => by unfold interactive; rw [e] <;> rfl), Fn.bindsN (fun _ _ _ _ _ _ us hl => match us, hl with | [_, _], _ => rfl), Fn.kp⟩
  obtain ⟨H0, d, r, A1, S, evs, st, rfl, D, ok, hnm, ⟨xs, hxs, hp⟩, hl, rfl, hev, hpl, q⟩ := h
  have xl := paired_len hp
  refine ⟨iEnum K (tCons (tVar 1) tNil), gTup K 2 (gCons (gName 2) (gCons (gName 3) gNil)), t1S K, t2S, t3S K, teS, ?_, fun L s2 => ⟨(pi_enum rfl T.b_enumerate (pa_cons (pv 1) pa_nil)), (pg_tup rfl (pgs_cons (pg_name (i := 2) sc_steps_on.nd rfl (Or.inl rfl)) (pgs_cons (pg_name (i := 3) sc_steps_on.nd rfl (Or.inl rfl)) pgs_nil))), (L2N.ps_try_as (i := 5) (c := .ref 31) (tb := fun _ => t1S K) (ts := fun _ _ _ => tNever) rfl rfl sc_steps_on.nd rfl rfl ⟨rfl, by decide, .inl T.g_GrowError⟩ takes0N (fun W pn xe tk _ => pss_one (ps_set (i := 4) sc_steps_on.nd rfl (Or.inl rfl) (pe_mtc (ok_Disk_do T TB) hr (by decide) (pv 0) (pa_cons (pv 3) pa_nil)))) (fun a oe cls dd pn _ _ => pss_one ps_never)), (ps_set (i := 6) sc_steps_on.nd rfl (Or.inl rfl) pe_int), (ps_if (pt_cmpR (op_inO (ok_Disk_contains T) hr (by decide)) (pe_ix (r := rIxT K) ix_tup (pv 3) pe_int (fun _ _ => rfl)) (pv 0) (by with_unfolding_all rfl))
    (pss_one (ps_set (i := 6) sc_steps_on.nd rfl (Or.inl rfl) (pe_callB call_len_seq rfl T.b_len (by decide +kernel) (pa_cons (pe_mtc0 (ok_File_pieces T).c hr (by decide) (pe_getO (ok_Disk_getitem T) hr (by decide) (pv 0) (pe_ix (r := rIxT K) ix_tup (pv 3) pe_int (fun _ _ => rfl)))) pa_nil))))
    pss_nil), (pe_tup (pa_cons (pv 3) (pa_cons (pv 4) (pa_cons (pv 6) pa_nil))))⟩⟩
  have se : ∀ {H' : Hp}, LamX.ExtN H0 H' → H' r = some (.lst xs) := fun e => keep_lst e hxs
  refine ⟨_, rfl, r, xs, rfl, SqL.of (se D.ext), ?_⟩
  refine ⟨fun i m σ H' => m = evs.length - i ∧ i ≤ evs.length ∧ (∃ x2 x3 x4 x5 x6, σ = [some (.ref d), some (.ref r), x2, x3, x4, x5, x6]) ∧ ∃ A' S', DiskF K H0 H' d A' S' ∧ DOk S' ∧ Named S' ∧ S'.b = S.b ∧ S'.n = S.n ∧ S'.rule = S.rule ∧ aPlay S.b S.n (absS S') (evs.drop i) = some st, ⟨rfl, Nat.zero_le _, ⟨_, _, _, _, _, rfl⟩, A1, S, D, ok, hnm, rfl, rfl, rfl, hpl⟩, ?_⟩
  rintro i m σ H' ⟨rfl, hi, ⟨x2, x3, x4, x5, x6, rfl⟩, A', S', D', ok', nm', eb, en, er, pl⟩
  have wk := walk_enum (K := K) (a := r) (xs := xs)
  have sl : SqL K H' r xs := SqL.of (se D'.ext)
  by_cases c : i < evs.length
  · refine .inr ⟨wk.goes i H' (by omega) sl, evs.length - (i + 1), by omega, fun x H2 yl => ?_⟩
    obtain ⟨T2, xa, xb, rfl, hT, rfl, hxa, hxb⟩ := wk.yields i H' x H2 (by omega) sl yl
    have hxb : xs[i]? = some xb := hxb
    obtain ⟨e, hei, t, rfl, ht⟩ := paired_at hp hxb
    have he := hev e (List.mem_of_getElem? hei)
    have dr : evs.drop i = e :: evs.drop (i + 1) := by
      obtain ⟨hlt, ee⟩ := List.getElem?_eq_some_iff.mp hei
      rw [List.drop_eq_getElem_cons hlt, ee]
    rw [dr] at pl
    have s2 : Same H' (upd H' T2 (.tup [xa, .ref t])) := same_upd hT
    have D2 := D'.same s2
    have hT2 : SqT K (upd H' T2 (.tup [xa, .ref t])) T2 [xa, .ref t] := SqT.of upd_same
    generalize upd H' T2 (.tup [xa, .ref t]) = H4 at D2 hT2
    have ht4 := sqT_keep D2.ext ht
    refine ⟨T2, _, rfl, hT2, rfl, _, _, rfl, _, _, rfl, rfl, ?_⟩
    cases e with
    | mk j =>
      have st1 : aStep S.b S.n (absS S') (.mk j) = (if j = (absS S').length then some (absS S' ++ [(0, 0)]) else none) := rfl
      have pl' : (match aStep S.b S.n (absS S') (.mk j) with
        | some st' => aPlay S.b S.n st' (evs.drop (i + 1))
        | none => none) = some st := pl
      rw [st1] at pl'
      by_cases cj : j = (absS S').length
      · rw [if_pos cj] at pl'
        rw [abs_len] at cj
        subst cj
        have he8 : S'.fs.length < 8 := he
        obtain ⟨ok3, nm3, ab3⟩ := ok'.made nm' he8
        refine ⟨_, rfl, d, A'.dx, _, rfl, D2.disk.ins, rfl, _, rfl, H0, d, A', S', t, .mk S'.fs.length, rfl, D2, ok', ht4, he, nm'.new, fun H5 A5 D5 => ?_⟩
        refine steps_tail D5.disk ok3.nd nm3 (j := S'.fs.length) (by show _ < (S'.fs ++ [(⟨nm S'.fs.length, 0, 0, []⟩ : FSt)]).length; rw [List.length_append, List.length_singleton]; omega) (sqT_keep D5.ext ht) _ fun x6' H6 s6 => ?_
        exact ⟨rfl, c, ⟨_, _, _, _, _, rfl⟩, A5, _, D5.same s6, ok3, nm3, eb, en, er, by rw [ab3]; exact pl'⟩
      · rw [if_neg cj] at pl'
        cases pl'
    | gr j m =>
      have pl' : (match (if j < (absS S').length then Gf.growA S.b S.n (absS S') j m else none) with
        | some st' => aPlay S.b S.n st' (evs.drop (i + 1))
        | none => none) = some st := pl
      by_cases cj : j < (absS S').length
      · rw [if_pos cj] at pl'
        rw [abs_len] at cj
        obtain ⟨f, hf⟩ : ∃ f, S'.fs[j]? = some f := ⟨_, List.getElem?_eq_getElem cj⟩
        have gn : Gf.growA S'.b S'.n (absS S') j m ≠ none := fun z => by
          rw [eb, en] at z
          rw [z] at pl'
          cases pl'
        refine ⟨_, rfl, d, A'.dx, _, rfl, D2.disk.ins, rfl, _, rfl, H0, d, A', S', t, .gr j m, rfl, D2, ok', ht4, he, f, hf, nm'.at_ hf, gn, fun H5 S5 v D5 ok5 nx5 => ?_⟩
        have nm5 := Nx.named nm' nx5
        have l5 : S5.fs.length = S'.fs.length := by
          have := congrArg List.length nx5.2.2.2.1
          rw [List.length_map, List.length_map] at this
          exact this
        refine steps_tail D5.disk ok5.nd nm5 (j := j) (by omega) (sqT_keep D5.ext ht) _ fun x6' H6 s6 => ?_
        refine ⟨rfl, c, ⟨_, _, _, _, _, rfl⟩, A', S5, D5.same s6, ok5, nm5, nx5.1.trans eb, nx5.2.1.trans en, nx5.2.2.1.trans er, ?_⟩
        have e5 := nx5.2.2.2.2
        rw [eb, en] at e5
        rw [e5] at pl'
        exact pl'
      · rw [if_neg cj] at pl'
        cases pl'
  · have ie : i = evs.length := by omega
    subst ie
    refine .inl ⟨by rw [← xl]; exact wk.stops H' sl, ?_⟩
    rw [List.drop_length] at pl
    exact q H' A' S' D' ok' nm' eb en er (Option.some.inj pl)
end
end Gt
/-! ## GfD8 -/
set_option Elab.async false
set_option linter.all false
set_option maxRecDepth 100000
set_option maxHeartbeats 4000000
namespace Gt
open PySem PySem.Spec PyProof.Rows L2 Wm GenW
/-! ### played -/
def noT (H : Hp) : Hp := fun b => match H b with
  | some (.tbl _) => none
  | o => o
theorem noT_nt {H : Hp} (b : Addr) (ps : Array Value) : noT H b ≠ some (.tbl ps) := fun z => by
  unfold noT at z
  split at z
  · cases z
  · rename_i h
    exact h ps z
theorem noT_ext {H : Hp} : LamX.ExtN (noT H) H := fun b o h _ => by
  unfold noT at h
  split at h
  · cases h
  · exact h
theorem noT_none {H : Hp} {b : Addr} (h : H b = none) : noT H b = none := by
  unfold noT
  rw [h]
theorem noT_some {H : Hp} {b : Addr} {o : HO} (h : H b = some o) (ho : ∀ ps, o ≠ .tbl ps) : noT H b = some o := by
  unfold noT
  rw [h]
  split
  · rename_i e
    exact absurd (Option.some.inj e) (ho _)
  · rfl
theorem sqT_noT {K : PySem.W.Frag} {H : Hp} {t : Addr} {xs : List V} (h : SqT K H t xs) : SqT K (noT H) t xs := by
  rcases h with (h | ⟨o, h⟩) | h
  · exact .inl (.inl (noT_some h fun ps z => by cases z))
  · exact .inl (.inr ⟨o, noT_some h fun ps z => by cases z⟩)
  · exact .inr h
theorem RowEV.noT {K : PySem.W.Frag} {H : Hp} {a : Addr} {evs : List Ev} (h : RowEV K H a evs) : RowEV K (Gt.noT H) a evs := by
  obtain ⟨xs, h1, h2⟩ := h
  exact ⟨xs, noT_some h1 fun ps z => (by cases z), paired_mono h2 fun v e z => by
    obtain ⟨t, y1, y2⟩ := z
    exact ⟨t, y1, sqT_noT y2⟩⟩
def spPlayed (K : PySem.W.Frag) : Sp := fun vs H Q _ => ∃ (d r : Addr) (A : DA) (S : DSt) (evs : List Ev) (st : List Gf.FS), vs = [.ref d, .ref r] ∧ DiskAt K H d A S ∧ S.fs = [] ∧ DOk S ∧ RowEV K H r evs ∧ evs.length ≤ 1000 ∧ (∀ e ∈ evs, EvOk e) ∧ aPlay S.b S.n [] evs = some st ∧ LamX.Tabs T0 H ∧
  ∀ H' d' A' S', DiskF K (noT H) H' d' A' S' → DOk S' → Named S' → S'.b = S.b → S'.n = S.n → S'.rule = S.rule → absS S' = st → Q (.ref d') H'
section
variable {P : Program} {w : World} {K : PySem.W.Frag} {mg : Str → Option Value} {base : Heap}
theorem ok_played (T : Txt K mg) (TB : LamX.TabB base mg 688 684) : CalC P w K mg base 15 "played" (spPlayed K) := by
  refine calC_of T.f_played T.g_played sc_played (fun _ _ _ _ _ _ us hl => match us, hl with | [_, _], _ => rfl) (fun vs H Q E h => by obtain ⟨d, r, A1, S, evs, st, rfl, hd, hfs, ok, hrow, hl, hev, hpl, hT, q⟩ := h; rfl) fun cdv A outer s H vs Q E hr h => ?_
  obtain ⟨d, r, A1, S, evs, st, rfl, hd, hfs, ok, hrow, hl, hev, hpl, hT, q⟩ := h
  obtain ⟨gfd, gps, GF, GB, GK⟩ := ok_steps_on (P := P) (w := w) T TB
  refine ⟨_, (pss_cons (ps_expr (pe_cc (ok_check_row T) hr (by decide) rfl (pa_cons (pv 1) pa_nil)))
  (pss_cons (ps_set (i := 2) sc_played.nd rfl (Or.inl rfl) (pe_mtc0 (ok_Disk_twin T) hr (by decide) (pv 0)))
  (pss_cons (ps_forG (k := 12) (i := 3) PassesOwn.never rfl (fun _ => rfl) rfl rfl (hr.mono (by decide)) sc_played.nd rfl rfl (pgenL_call GF (hr.mono (by decide)) rfl T.g_steps_on GK GB (pa_cons (pv 2) (pa_cons (pv 1) pa_nil))))
  (pss_one (ps_ret (pv 2)))))), ?_⟩
  refine ⟨_, rfl, r, evs, rfl, hrow, by omega, hev, fun H1 s1 => ?_⟩
  refine ⟨_, rfl, d, A1.dx, _, rfl, s1 _ _ hd.ins, rfl, d, A1, S, rfl, hd.keep (same_ext s1), hfs, ok, fun H2 d2 A2 s2 hf2 hd2 hfa2 => ?_⟩
  have s12 := s1.trans s2
  have D2 : DiskF K (noT H) H2 d2 A2 S := ⟨hd2, fun b hb => noT_none (s1.free (hf2 b hb)), noT_ext.trans (same_ext s12), hT.ext s12, noT_nt⟩
  have nm0 : Named S := by
    show S.fs.map (·.nm) = _
    rw [hfs] <;> rfl
  have ab0 : absS S = [] := by
    unfold absS
    rw [hfs] <;> rfl
  refine ⟨evs.length, _, rfl, _, rfl, noT H, d2, r, A2, S, evs, st, rfl, D2, ok, nm0, hrow.noT, hl, rfl, hev, by rw [ab0]; exact hpl, fun H3 A3 S3 D3 ok3 n3 e1 e2 e3 e4 => ?_⟩
  rintro σ' (rfl | ⟨v, rfl⟩)
  · exact ⟨_, rfl, q H3 d2 A3 S3 D3 ok3 n3 e1 e2 e3 e4⟩
  · exact ⟨_, rfl, q H3 d2 A3 S3 D3 ok3 n3 e1 e2 e3 e4⟩
end
end Gt
/-! ## GfE1 -/
set_option Elab.async false
set_option linter.all false
set_option maxRecDepth 100000
set_option maxHeartbeats 4000000
namespace Gt
open PySem PySem.Spec PyProof.Rows L2 Wm GenW
/-! ### the law's helpers -/
def PoolAt (H : Hp) (p : Addr) : Prop := ∃ a b : Int, H p = some (.lst [.int a, .int b]) ∧ 0 ≤ a ∧ 0 ≤ b ∧ b < 2147483647
def spHand (K : PySem.W.Frag) : Sp := fun vs H Q _ => ∃ (s : Addr) (ns : List Int) (k : Nat), vs = [.ref s, .int k] ∧ SqL K H s (ns.map V.int) ∧ k ≤ 3 ∧ ns.length ≤ 63 ∧ ∀ H' p, Same H H' → H p = none → PoolAt H' p → Q (.ref p) H'
def spDraw : Sp := fun vs H Q _ => ∃ (p : Addr) (m : Int), vs = [.ref p, .int m] ∧ PoolAt H p ∧ (1 ≤ m ∧ m ≤ 1000) ∧ ∀ i a b : Int, 0 ≤ i → i < m → 0 ≤ a → 0 ≤ b → b < 2147483647 → Q (.int i) (upd H p (.lst [.int a, .int b]))
theorem pool_put {H : Hp} {p : Addr} {a b : Int} (h1 : 0 ≤ a) (h2 : 0 ≤ b) (h3 : b < 2147483647) : PoolAt (upd H p (.lst [.int a, .int b])) p := ⟨a, b, upd_same, h1, h2, h3⟩
/-- what stands but for the pool: texts of Same, one list excepted -/
def SameP (p : Addr) (H H' : Hp) : Prop := ∀ b o, H b = some o → b ≠ p → H' b = some o
theorem SameP.of {p : Addr} {H H' : Hp} (s : Same H H') : SameP p H H' := fun b o h _ => s b o h
theorem SameP.trans {p : Addr} {H H1 H2 : Hp} (a : SameP p H H1) (b : SameP p H1 H2) : SameP p H H2 := fun c o h n => b c o (a c o h n) n
theorem SameP.put {p : Addr} {H : Hp} {o : HO} : SameP p H (upd H p o) := fun b u h n => by rw [upd_ne n]; exact h
theorem sqT_P {K : PySem.W.Frag} {p t : Addr} {H H' : Hp} {ys xs : List V} (hp : H p = some (.lst ys)) (s : SameP p H H') (h : SqT K H t xs) : SqT K H' t xs := by
  rcases h with (h | ⟨o, h⟩) | h
  · exact .inl (.inl (s _ _ h fun z => by rw [z, hp] at h; cases h))
  · exact .inl (.inr ⟨o, s _ _ h fun z => by rw [z, hp] at h; cases h⟩)
  · exact .inr h
/-- the parts that a book is made of -/
def PartsAt (K : PySem.W.Frag) (H : Hp) (t : Addr) (b : Gf.Bk) : Prop := ∃ s, SqT K H t [.int b.first, .int b.roof, .ref s] ∧ ShareAt K H s b ∧ 1 ≤ b.first ∧ b.first ≤ b.roof ∧ b.roof ≤ 1000
def spLawParts (K : PySem.W.Frag) : Sp := fun vs H Q _ => ∃ p : Addr, vs = [.ref p] ∧ PoolAt H p ∧ ∀ H' t b, SameP p H H' → PoolAt H' p → PartsAt K H' t b → Q (.ref t) H'
def spLawBook (K : PySem.W.Frag) : Sp := fun vs H Q _ => ∃ (t : Addr) (b : Gf.Bk), vs = [.ref t] ∧ PartsAt K H t b ∧ ∀ H' a, Same H H' → BookAt K H' a b → Q (.ref a) H'
def spLawIdle (K : PySem.W.Frag) : Sp := fun vs H Q _ => ∃ (d : Addr) (A : DA) (S : DSt), vs = [.ref d] ∧ DiskAt K H d A S ∧ (S.fs.map (·.nm)).Nodup ∧ S.fs.length ≤ 8 ∧ ∀ H', Same H H' → Q (.int (Gf.idles (absS S))) H'
theorem hand_cell {ns : List Int} {k : Nat} (hk : k ≤ 3) : ∃ c, atI ((cutV (ns.map V.int) (some (k : Int)) (some ((k : Int) + 1))) ++ [V.int 0]) 0 = some (V.int c) := by
  cases hq : cutV (ns.map V.int) (some (k : Int)) (some ((k : Int) + 1)) with
  | nil => exact ⟨0, atI_nat (j := 0) rfl⟩
  | cons x r =>
    have hx : x ∈ cutV (ns.map V.int) (some (k : Int)) (some ((k : Int) + 1)) := by rw [hq]; exact List.mem_cons_self
    unfold cutV at hx
    have h2 := List.mem_of_mem_drop (List.mem_of_mem_take hx)
    obtain ⟨c, _, e⟩ := List.mem_map.mp h2
    exact ⟨c, by rw [← e]; exact atI_nat (j := 0) rfl⟩
section
variable {P : Program} {w : World} {K : PySem.W.Frag} {mg : Str → Option Value} {base : Heap}
theorem ok_law_draw (T : Txt K mg) : CalC P w K mg base 1 "_law_draw" spDraw := by
  refine calC_of T.f_law_draw T.g_law_draw sc_law_draw (fun _ _ _ _ _ _ us hl => match us, hl with | [_, _], _ => rfl) (fun vs H Q E h => by obtain ⟨p, m, rfl, ⟨a, b, hp, ha, hb, hb2⟩, hm, q⟩ := h; rfl) fun cdv A outer s H vs Q E hr h => ?_
  obtain ⟨p, m, rfl, ⟨a, b, hp, ha, hb, hb2⟩, hm, q⟩ := h
  refine ⟨_, (pss_cons (ps_if (pt_cmpR op_gt (pe_ix (r := rIxL K) ix_list (pv 0) pe_int (fun _ _ => rfl)) pe_int (nomark _))
    (pss_cons (ps_set (i := 2) sc_law_draw.nd rfl (Or.inl rfl) (pe_op op_mod (pe_callTy call_int1 rfl T.b_int (by decide +kernel) (pa_cons (pe_ix (r := rIxL K) ix_list (pv 0) pe_int (fun _ _ => rfl)) pa_nil)) (pv 1)))
    (pss_cons (ps_asg (pe_op op_fdiv (pe_ix (r := rIxL K) ix_list (pv 0) pe_int (fun _ _ => rfl)) (pv 1)) (pg_sub (pv 0) pe_int set_list))
    (pss_one (ps_ret (pv 2)))))
    pss_nil)
  (pss_cons (ps_asg (pe_op op_mod (pe_callTy call_int1 rfl T.b_int (by decide +kernel) (pa_cons (pe_op op_add (pe_op op_mul (pe_ix (r := rIxL K) ix_list (pv 0) pe_int (fun _ _ => rfl)) pe_int) pe_int) pa_nil)) pe_int) (pg_sub (pv 0) pe_int set_list))
  (pss_one (ps_ret (pe_op op_mod (pe_op op_fdiv (pe_op op_mod (pe_callTy call_int1 rfl T.b_int (by decide +kernel) (pa_cons (pe_op op_mul (pe_ix (r := rIxL K) ix_list (pv 0) pe_int (fun _ _ => rfl)) (pe_ix (r := rIxL K) ix_list (pv 0) pe_int (fun _ _ => rfl))) pa_nil)) pe_int) pe_int) (pv 1)))))), ?_⟩
  refine ⟨_, rfl, p, _, _, _, rfl, rfl, SqL.of hp, atI_nat (j := 0) rfl, _, _, rfl, rfl, _, rfl, if2 (fun c => ?_) (fun c => ?_)⟩
  · refine ⟨_, rfl, p, _, _, _, rfl, rfl, SqL.of hp, atI_nat (j := 0) rfl, .inl ⟨_, rfl, _, rfl, _, _, rfl, rfl, by omega, ?_⟩⟩
    refine ⟨_, rfl, p, _, _, _, rfl, rfl, SqL.of hp, atI_nat (j := 0) rfl, _, rfl, _, _, rfl, rfl, ⟨by omega, by omega⟩, _, rfl, p, _, 0, 0, rfl, rfl, hp, ixN_at (j := 0) (by show 0 < 2; decide), ?_⟩
    exact ⟨_, rfl, q (a % m) (a / m) b (Int.emod_nonneg _ (by omega)) (Int.emod_lt_of_pos _ (by omega)) (Int.ediv_nonneg ha (by omega)) hb hb2⟩
  · refine ⟨_, rfl, p, _, _, _, rfl, rfl, SqL.of hp, atI_nat (j := 1) rfl, _, _, rfl, rfl, .inl ⟨by omega, by omega⟩, _, _, rfl, rfl, .inl ⟨_, rfl, _, _, rfl, rfl, (by show (0 : Int) < 2147483647; decide), _, rfl, p, _, 1, 1, rfl, rfl, hp, ixN_at (j := 1) (by show 1 < 2; decide), ?_⟩⟩
    have b1 := Int.emod_nonneg (b * 48271 + 11) (b := 2147483647) (by decide)
    have b2 := Int.emod_lt_of_pos (b * 48271 + 11) (b := 2147483647) (by decide)
    have hp2 : upd H p (.lst [.int a, .int ((b * 48271 + 11) % 2147483647)]) p = some (.lst [.int a, .int ((b * 48271 + 11) % 2147483647)]) := upd_same
    refine ⟨_, rfl, p, _, _, _, rfl, rfl, SqL.of hp2, atI_nat (j := 1) rfl, _, rfl, p, _, _, _, rfl, rfl, SqL.of hp2, atI_nat (j := 1) rfl, _, _, rfl, rfl, .inl ⟨by omega, by omega⟩, .inl ⟨_, rfl, _, _, rfl, rfl, (by show (0 : Int) < 2147483629; decide), _, _, rfl, rfl, ⟨by decide, by decide⟩, _, rfl, _, _, rfl, rfl, by omega, ?_⟩⟩
    exact q _ a _ (Int.emod_nonneg _ (by omega)) (Int.emod_lt_of_pos _ (by omega)) ha b1 b2
theorem ok_law_hand (T : Txt K mg) : CalC P w K mg base 1 "_law_hand" (spHand K) := by
  refine calC_of T.f_law_hand T.g_law_hand sc_law_hand (fun _ _ _ _ _ _ us hl => match us, hl with | [_, _], _ => rfl) (fun vs H Q E h => by obtain ⟨s, ns, k, rfl, hs, hk, hnl, q⟩ := h; rfl) fun cdv A outer s H vs Q E hr h => ?_
  obtain ⟨s, ns, k, rfl, hs, hk, hnl, q⟩ := h
  refine ⟨_, (pss_cons (ps_set (i := 2) sc_law_hand.nd rfl (Or.inl rfl) (pe_ix (r := rIxL K) ix_list (pe_op op_cat (pe_slice sl_list (pv 0) (po_some (pv 1)) (po_some (pe_op op_add (pv 1) pe_int))) (pe_lst (pa_cons pe_int pa_nil))) pe_int (fun _ _ => rfl)))
  (pss_cons (ps_set (i := 3) sc_law_hand.nd rfl (Or.inl rfl) (pe_op op_mod (pe_op op_mul (pe_op op_add (pe_op op_add (pe_op op_mod (pe_callTy call_int1 rfl T.b_int (by decide +kernel) (pa_cons (pv 2) pa_nil)) pe_int) (pe_op op_mul pe_int (pv 1))) pe_int) pe_int) pe_int))
  (pss_one (ps_ret (pe_lst (pa_cons (pe_op op_mul (pe_callTy call_int1 rfl T.b_int (by decide +kernel) (pa_cons (pe_cmpR op_ge (pv 2) (pe_op op_pow pe_int pe_int) (nomark _)) pa_nil)) (pv 2)) (pa_cons (pv 3) pa_nil))))))), ?_⟩
  obtain ⟨c, hc⟩ := hand_cell (ns := ns) hk
  refine ⟨_, rfl, _, rfl, _, rfl, _, rfl, _, _, rfl, rfl, _, rfl, s, _, rfl, hs, fun l1 h1 => ⟨(by show 1 ≤ sizeLine; decide), fun l2 h2 => ?_⟩⟩
  have e1 : Same H (upd (upd H l1 (.lst (cutV (ns.map V.int) (some (k : Int)) (some ((k : Int) + 1))))) l2 (.lst [.int 0])) := (same_upd h1).trans (same_upd h2)
  have n12 : l1 ≠ l2 := fun z => by rw [← z, upd_same] at h2; cases h2
  have cl : (cutV (ns.map V.int) (some (k : Int)) (some ((k : Int) + 1))).length ≤ 63 := by
    refine Nat.le_trans (cutV_length _ _ _) ?_
    rw [List.length_map]
    exact hnl
  refine ⟨l1, l2, _, _, rfl, rfl, by rw [upd_ne n12, upd_same], upd_same, by rw [sizeLine_eq]; show _ + 1 ≤ _; omega, fun l3 h3 => ?_⟩
  have e3 := e1.trans (same_upd (o := .lst (cutV (ns.map V.int) (some (k : Int)) (some ((k : Int) + 1)) ++ [V.int 0])) h3)
  refine ⟨l3, _, 0, .int c, rfl, rfl, SqL.of upd_same, hc, ?_⟩
  refine ⟨_, rfl, .inl ⟨_, rfl, _, _, rfl, rfl, (by show (0 : Int) < 2147483647; decide), _, rfl, _, _, rfl, rfl, .inl ⟨by decide, by decide⟩, _, _, rfl, rfl, _, _, rfl, rfl, _, _, rfl, rfl, .inr ⟨by decide, by decide⟩, _, _, rfl, rfl, (by show (0 : Int) < 2147483629; decide), ?_⟩⟩
  refine ⟨_, rfl, _, _, rfl, rfl, ⟨by decide, by decide, by decide⟩, _, _, rfl, rfl, .inr ⟨_, rfl, _, rfl, _, _, rfl, rfl, ?_, _, rfl, (by show 2 ≤ sizeLine; decide), fun p hp => ?_⟩⟩
  · by_cases z : (10 : Int) ^ (18 : Int).toNat ≤ c
    · rw [decide_eq_true z]
      exact .inl ⟨by decide, by decide⟩
    · rw [decide_eq_false z]
      exact .inl ⟨by decide, by decide⟩
  refine q _ p (e3.trans (same_upd hp)) (e3.free hp) ⟨_, _, upd_same, ?_, Int.emod_nonneg _ (by decide), ?_⟩
  · by_cases z : (10 : Int) ^ (18 : Int).toNat ≤ c
    · rw [decide_eq_true z]
      have z2 : (10 : Int) ^ 18 ≤ c := z
      show 0 ≤ (1 : Int) * c
      omega
    · rw [decide_eq_false z]
      show 0 ≤ (0 : Int) * c
      omega
  · have := Int.emod_lt_of_pos ((c % 2147483647 + 7919 * (k : Int) + 1) * 48271) (b := 2147483629) (by decide)
    omega
theorem ok_law_book (T : Txt K mg) : CalC P w K mg base 6 "_law_book" (spLawBook K) := by
  refine calC_of T.f_law_book T.g_law_book sc_law_book (fun _ _ _ _ _ _ us hl => match us, hl with | [_], _ => rfl) (fun vs H Q E h => by obtain ⟨t, b, rfl, ⟨s, ht, hs, h1, h2, h3⟩, q⟩ := h; rfl) fun cdv A outer s H vs Q E hr h => ?_
  obtain ⟨t, b, rfl, ⟨s, ht, hs, h1, h2, h3⟩, q⟩ := h
  refine ⟨_, (pss_one (ps_ret (pe_mkk (ok_Book_init T) hr (by decide) rfl (pa_cons (pe_ix (r := rIxT K) ix_tup (pv 0) pe_int (fun _ _ => rfl)) (pa_cons (pe_ix (r := rIxT K) ix_tup (pv 0) pe_int (fun _ _ => rfl)) pa_nil)) (pk_cons (pe_ix (r := rIxT K) ix_tup (pv 0) pe_int (fun _ _ => rfl)) pk_nil)))), ?_⟩
  refine ⟨_, rfl, t, _, _, _, rfl, rfl, ht, atI_nat (j := 0) rfl, _, rfl, t, _, _, _, rfl, rfl, ht, atI_nat (j := 1) rfl, _, rfl, t, _, _, _, rfl, rfl, ht, atI_nat (j := 2) rfl, rfl, rfl, fun x d nx nd ne => ?_⟩
  have e1 : Same H (upd (upd H d (.own x)) x (.ins 593 d [])) := fun c o e => by rw [upd_ne (ne_of_none e nx), upd_ne (ne_of_none e nd)]; exact e
  refine ⟨x, d, s, b, rfl, upd_same, hs.keep (same_ext e1), ⟨h1, by omega, h2, h3⟩, rfl, ?_⟩
  have e2 : Same H (upd (upd (upd H d (.own x)) x (.ins 593 d [])) x (.ins 593 d (bookFs b s))) := fun c o e => by rw [upd_ne (ne_of_none e nx)]; exact e1 c o e
  exact q _ _ e2 ⟨d, s, upd_same, hs.keep (same_ext e2)⟩
theorem ok_law_idle (T : Txt K mg) : CalC P w K mg base 4 "_law_idle" (spLawIdle K) := by
  refine calC_of T.f_law_idle T.g_law_idle sc_law_idle (fun _ _ _ _ _ _ us hl => match us, hl with | [_], _ => rfl) (fun vs H Q E h => by obtain ⟨d, A1, S, rfl, hd, nd, hl, q⟩ := h; rfl) fun cdv A outer s H vs Q E hr h => ?_
  obtain ⟨d, A1, S, rfl, hd, nd, hl, q⟩ := h
  refine ⟨_, (pss_one (ps_ret (pe_callB (cr_sum rfl) rfl T.b_sum (by decide +kernel) (pa_cons (pe_lc (own := [("_law_name", 1)]) (g := (gName 1)) rfl sc_law_idle.nd (pi_list (pe_mtc0 (ok_Disk_names T) hr (by decide) (pv 0))) (blkOk_by (own := [("_law_name", 1)]) (N := ["_law_disk", "_law_name"]) (sc := defScope s_law_idle) (by decide +kernel)) (fun _ _ _ _ _ => (pg_name (i := 1) sc_law_idle.nd rfl (Or.inl rfl))) (fun _ _ _ _ _ => pts_nil) (fun _ _ _ _ _ => (pe_callTy call_int1 rfl T.b_int (by decide +kernel) (pa_cons (pe_prw (j := 3) (ok_File_idle T) ⟨hr.dp, hr.un⟩ (by decide) (.inl rfl) (pe_getO (ok_Disk_getitem T) hr (by decide) (pv 0) (pv 1))) pa_nil)))) pa_nil)))), ?_⟩
  refine ⟨_, rfl, d, A1.dx, _, rfl, hd.ins, rfl, d, A1, S, rfl, hd, fun l hl0 => ⟨l, rfl, ⟨_, SqL.of upd_same⟩, fun L hL => ?_⟩⟩
  have s1 : Same H (upd H l (.lst (S.fs.map fun f => V.str f.nm))) := same_upd hl0
  have h1 : upd H l (.lst (S.fs.map fun f => V.str f.nm)) l = some (.lst (S.fs.map fun f => V.str f.nm)) := upd_same
  generalize upd H l (.lst (S.fs.map fun f => V.str f.nm)) = H1 at s1 h1 hL
  refine lc_list (K := K) (a := l) (xs := S.fs.map fun f => V.str f.nm) (fun i H' => Same H1 H' ∧ H' L = some (.lst ((S.fs.take i).map fun f => V.int (f.hold - f.size)))) ?_ ?_ ?_ ?_
  · exact ⟨same_upd hL, upd_same⟩
  · rintro i H' _ ⟨s2, _⟩
    exact SqL.of (s2 _ _ h1)
  · rintro i x H' hx ⟨s2, hlst⟩
    rw [List.getElem?_map] at hx
    cases hfi : S.fs[i]? with
    | none => rw [hfi] at hx; cases hx
    | some f =>
      rw [hfi] at hx
      have ex : x = .str f.nm := (Option.some.inj hx).symm
      subst ex
      have il : i < S.fs.length := (List.getElem?_eq_some_iff.mp hfi).1
      have d2 := hd.keep (same_ext (s1.trans s2))
      obtain ⟨a, ha, ⟨dxf, hfa⟩, _⟩ := paired_at' d2.files hfi
      refine ⟨rfl, yes_i ?_⟩
      refine ⟨_, rfl, _, rfl, d, A1.dx, _, rfl, d2.ins, d, A1, S, f.nm, i, f, a, rfl, d2, nd, hfi, ha, rfl, ?_⟩
      refine ⟨a.1, dxf, _, rfl, hfa, a.1, dxf, d, a.2, f.nm, f.size, f.hold, rfl, hfa, .inl ⟨_, rfl, _, hlst, ?_, fun b o hb => ?_, ?_⟩⟩
      · rw [List.length_map, List.length_take, sizeLine_eq]; omega
      · rw [upd_ne (ne_of_none hb hL)]; exact s2 b o hb
      · rw [upd_same, take_snoc hfi, List.map_append] <;> rfl
  · rintro H' ⟨s2, hlst⟩
    rw [List.length_map, List.take_length] at hlst
    refine ⟨L, S.fs.map fun f => f.hold - f.size, rfl, SqL.of (by rw [List.map_map]; exact hlst), ?_⟩
    have e : (S.fs.map fun f => f.hold - f.size).sum = Gf.idles (absS S) := by
      unfold Gf.idles absS
      rw [List.map_map] <;> rfl
    rw [e]
    exact q H' (s1.trans s2)
end
end Gt
/-! ## GfE2 -/
set_option Elab.async false
set_option linter.all false
set_option maxRecDepth 100000
set_option maxHeartbeats 4000000
namespace Gt
open PySem PySem.Spec PyProof.Rows L2 Wm GenW
theorem at_mem {xs : List V} {i : Int} (h0 : 0 ≤ i) (h1 : i < xs.length) : ∃ x, atI xs i = some x ∧ x ∈ xs := by
  obtain ⟨j, rfl⟩ : ∃ j : Nat, i = j := ⟨i.toNat, by omega⟩
  have hj : j < xs.length := by omega
  exact ⟨xs[j], atI_nat (List.getElem?_eq_getElem hj), List.getElem_mem hj⟩
theorem pool_ne {H : Hp} {p l : Addr} (h : PoolAt H p) (hl : H l = none) : p ≠ l := by
  obtain ⟨a, b, h1, _⟩ := h
  exact ne_of_none h1 hl
theorem PoolAt.same {H H' : Hp} {p : Addr} (s : Same H H') (h : PoolAt H p) : PoolAt H' p := by
  obtain ⟨a, b, h1, h2⟩ := h
  exact ⟨a, b, s _ _ h1, h2⟩
theorem PoolAt.lst {H : Hp} {p : Addr} (h : PoolAt H p) : ∃ ys, H p = some (.lst ys) := by
  obtain ⟨a, b, h1, _⟩ := h
  exact ⟨_, h1⟩
section
variable {P : Program} {w : World} {K : PySem.W.Frag} {mg : Str → Option Value} {base : Heap}
theorem ok_law_parts (T : Txt K mg) : CalC P w K mg base 2 "_law_parts" (spLawParts K) := by
  refine calC_of T.f_law_parts T.g_law_parts sc_law_parts (fun _ _ _ _ _ _ us hl => match us, hl with | [_], _ => rfl) (fun vs H Q E h => by obtain ⟨p, rfl, pl0, q⟩ := h; rfl) fun cdv A outer s H vs Q E hr h => ?_
  obtain ⟨p, rfl, pl0, q⟩ := h
  refine ⟨_, (pss_cons (ps_set (i := 1) sc_law_parts.nd rfl (Or.inl rfl) (pe_ix (r := rIxL K) ix_list (pe_lst (pa_cons pe_int (pa_cons pe_int (pa_cons pe_int (pa_cons pe_int (pa_cons pe_int (pa_cons pe_int pa_nil))))))) (pe_cc (ok_law_draw T) hr (by decide) rfl (pa_cons (pv 0) (pa_cons pe_int pa_nil))) (fun _ _ => rfl)))
  (pss_cons (ps_set (i := 2) sc_law_parts.nd rfl (Or.inl rfl) (pe_op op_add (pv 1) (pe_ix (r := rIxL K) ix_list (pe_lst (pa_cons pe_int (pa_cons pe_int (pa_cons pe_int (pa_cons pe_int (pa_cons pe_int (pa_cons pe_int pa_nil))))))) (pe_cc (ok_law_draw T) hr (by decide) rfl (pa_cons (pv 0) (pa_cons pe_int pa_nil))) (fun _ _ => rfl))))
  (pss_cons (ps_set (i := 3) sc_law_parts.nd rfl (Or.inl rfl) (pe_tup (pa_cons (pe_op op_add pe_int (pe_cc (ok_law_draw T) hr (by decide) rfl (pa_cons (pv 0) (pa_cons pe_int pa_nil)))) (pa_cons (pe_op op_add pe_int (pe_cc (ok_law_draw T) hr (by decide) rfl (pa_cons (pv 0) (pa_cons pe_int pa_nil)))) pa_nil))))
  (pss_cons (ps_set (i := 4) sc_law_parts.nd rfl (Or.inl rfl) (pe_ix (r := rIxL K) ix_list (pe_lst (pa_cons (pe_tup (pa_cons pe_int (pa_cons pe_int pa_nil))) (pa_cons (pe_tup (pa_cons pe_int (pa_cons pe_int pa_nil))) (pa_cons (pe_tup (pa_cons pe_int (pa_cons pe_int pa_nil))) (pa_cons (pe_tup (pa_cons pe_int (pa_cons pe_int pa_nil))) (pa_cons (pe_tup (pa_cons pe_int (pa_cons pe_int pa_nil))) (pa_cons (pv 3) pa_nil))))))) (pe_cc (ok_law_draw T) hr (by decide) rfl (pa_cons (pv 0) (pa_cons pe_int pa_nil))) (fun _ _ => rfl)))
  (pss_one (ps_ret (pe_tup (pa_cons (pv 1) (pa_cons (pv 2) (pa_cons (pv 4) pa_nil)))))))))), ?_⟩
  -- first
  refine ⟨(by show 6 ≤ sizeLine; decide), fun l1 h1 => ?_⟩
  have s1 : Same H (upd H l1 (.lst [.int 1, .int 1, .int 2, .int 3, .int 4, .int 7])) := same_upd h1
  have g1 : upd H l1 (.lst [.int 1, .int 1, .int 2, .int 3, .int 4, .int 7]) l1 = some (.lst [.int 1, .int 1, .int 2, .int 3, .int 4, .int 7]) := upd_same
  have n1 := pool_ne pl0 h1
  have pl1 := pl0.same s1
  generalize upd H l1 (.lst [.int 1, .int 1, .int 2, .int 3, .int 4, .int 7]) = H1 at s1 g1 pl1
  refine ⟨_, rfl, p, 6, rfl, pl1, ⟨by decide, by decide⟩, fun i1 a1 b1 hi hi2 ha hb hb2 => ?_⟩
  obtain ⟨x1, hx1, mx1⟩ := at_mem (xs := [.int 1, .int 1, .int 2, .int 3, .int 4, .int 7]) hi (by show i1 < (6 : Nat); omega)
  obtain ⟨f, rfl, hf1, hf2⟩ : ∃ f : Int, x1 = .int f ∧ 1 ≤ f ∧ f ≤ 7 := by
    simp only [List.mem_cons, List.mem_nil_iff, or_false] at mx1
    rcases mx1 with e | e | e | e | e | e <;> exact ⟨_, e, by decide, by decide⟩
  have s2 : SameP p H (upd H1 p (.lst [.int a1, .int b1])) := (SameP.of s1).trans SameP.put
  have pl2 : PoolAt (upd H1 p (.lst [.int a1, .int b1])) p := pool_put ha hb hb2
  have g2 : upd H1 p (.lst [.int a1, .int b1]) l1 = some (.lst [.int 1, .int 1, .int 2, .int 3, .int 4, .int 7]) := by rw [upd_ne (Ne.symm n1)]; exact g1
  generalize upd H1 p (.lst [.int a1, .int b1]) = H2 at s2 pl2 g2
  refine ⟨l1, _, i1, .int f, rfl, rfl, SqL.of g2, hx1, ?_⟩
  clear g1 g2 s1 pl1 mx1 hx1 ha hb hb2
  -- roof
  refine ⟨_, rfl, (by show 6 ≤ sizeLine; decide), fun l2 h2 => ?_⟩
  have s3 : Same H2 (upd H2 l2 (.lst [.int 0, .int 0, .int 1, .int 5, .int 20, .int 100])) := same_upd h2
  have g3 : upd H2 l2 (.lst [.int 0, .int 0, .int 1, .int 5, .int 20, .int 100]) l2 = some (.lst [.int 0, .int 0, .int 1, .int 5, .int 20, .int 100]) := upd_same
  have n2 := pool_ne pl2 h2
  have pl3 := pl2.same s3
  generalize upd H2 l2 (.lst [.int 0, .int 0, .int 1, .int 5, .int 20, .int 100]) = H3 at s3 g3 pl3
  refine ⟨_, rfl, p, 6, rfl, pl3, ⟨by decide, by decide⟩, fun i2 a2 b2 hi hi2 ha hb hb2 => ?_⟩
  obtain ⟨x2, hx2, mx2⟩ := at_mem (xs := [.int 0, .int 0, .int 1, .int 5, .int 20, .int 100]) hi (by show i2 < (6 : Nat); omega)
  obtain ⟨r, rfl, hr1, hr2⟩ : ∃ r : Int, x2 = .int r ∧ 0 ≤ r ∧ r ≤ 100 := by
    simp only [List.mem_cons, List.mem_nil_iff, or_false] at mx2
    rcases mx2 with e | e | e | e | e | e <;> exact ⟨_, e, by decide, by decide⟩
  have s4 : SameP p H (upd H3 p (.lst [.int a2, .int b2])) := s2.trans ((SameP.of s3).trans SameP.put)
  have pl4 : PoolAt (upd H3 p (.lst [.int a2, .int b2])) p := pool_put ha hb hb2
  have g4 : upd H3 p (.lst [.int a2, .int b2]) l2 = some (.lst [.int 0, .int 0, .int 1, .int 5, .int 20, .int 100]) := by rw [upd_ne (Ne.symm n2)]; exact g3
  generalize upd H3 p (.lst [.int a2, .int b2]) = H4 at s4 pl4 g4
  refine ⟨l2, _, i2, .int r, rfl, rfl, SqL.of g4, hx2, _, _, rfl, rfl, ?_⟩
  clear g3 g4 s3 pl3 mx2 hx2 ha hb hb2 s2 pl2
  -- any pair
  refine ⟨_, rfl, p, 5, rfl, pl4, ⟨by decide, by decide⟩, fun i3 a3 b3 hi3 hi3' ha hb hb2 => ⟨_, _, rfl, rfl, ?_⟩⟩
  have s5 : SameP p H (upd H4 p (.lst [.int a3, .int b3])) := s4.trans SameP.put
  have pl5 : PoolAt (upd H4 p (.lst [.int a3, .int b3])) p := pool_put ha hb hb2
  generalize upd H4 p (.lst [.int a3, .int b3]) = H5 at s5 pl5
  refine ⟨_, rfl, p, 5, rfl, pl5, ⟨by decide, by decide⟩, fun i4 a4 b4 hi4 hi4' ha hb hb2 => ⟨_, _, rfl, rfl, ?_⟩⟩
  have s6 : SameP p H (upd H5 p (.lst [.int a4, .int b4])) := s5.trans SameP.put
  have pl6 : PoolAt (upd H5 p (.lst [.int a4, .int b4])) p := pool_put ha hb hb2
  generalize upd H5 p (.lst [.int a4, .int b4]) = H6 at s6 pl6
  refine ⟨(by show 2 ≤ sizeLine; decide), fun T0' hT0 => ?_⟩
  -- the pairs
  refine ⟨(by show 2 ≤ sizeLine; decide), fun t1 k1 => ⟨(by show 2 ≤ sizeLine; decide), fun t2 k2 => ⟨(by show 2 ≤ sizeLine; decide), fun t3 k3 => ⟨(by show 2 ≤ sizeLine; decide), fun t4 k4 => ⟨(by show 2 ≤ sizeLine; decide), fun t5 k5 => ⟨_, rfl, (by show 6 ≤ sizeLine; decide), fun l k6 => ?_⟩⟩⟩⟩⟩⟩
  have z0 : Same H6 _ := same_upd (o := .tup [.int (1 + i3), .int (1 + i4)]) hT0
  have z1 := same_upd (o := .tup [.int 1, .int 1]) k1
  have z2 := same_upd (o := .tup [.int 1, .int 1]) k2
  have z3 := same_upd (o := .tup [.int 1, .int 2]) k3
  have z4 := same_upd (o := .tup [.int 2, .int 3]) k4
  have z5 := same_upd (o := .tup [.int 1, .int 10]) k5
  have z6 := same_upd (o := .lst [.ref t1, .ref t2, .ref t3, .ref t4, .ref t5, .ref T0']) k6
  have zz : Same H6 _ := z0.trans (z1.trans (z2.trans (z3.trans (z4.trans (z5.trans z6)))))
  have y0 : SqT K _ T0' [.int (1 + i3), .int (1 + i4)] := SqT.of ((z1.trans (z2.trans (z3.trans (z4.trans (z5.trans z6))))) _ _ upd_same)
  have y1 : SqT K _ t1 [.int 1, .int 1] := SqT.of ((z2.trans (z3.trans (z4.trans (z5.trans z6)))) _ _ upd_same)
  have y2 : SqT K _ t2 [.int 1, .int 1] := SqT.of ((z3.trans (z4.trans (z5.trans z6))) _ _ upd_same)
  have y3 : SqT K _ t3 [.int 1, .int 2] := SqT.of ((z4.trans (z5.trans z6)) _ _ upd_same)
  have y4 : SqT K _ t4 [.int 2, .int 3] := SqT.of ((z5.trans z6) _ _ upd_same)
  have y5 : SqT K _ t5 [.int 1, .int 10] := SqT.of (z6 _ _ upd_same)
  have nl : p ≠ l := pool_ne (pl6.same (z0.trans (z1.trans (z2.trans (z3.trans (z4.trans z5)))))) k6
  have pl7 := pl6.same zz
  have y6 := upd_same (H := upd (upd (upd (upd (upd (upd H6 T0' (.tup [.int (1 + i3), .int (1 + i4)])) t1 (.tup [.int 1, .int 1])) t2 (.tup [.int 1, .int 1])) t3 (.tup [.int 1, .int 2])) t4 (.tup [.int 2, .int 3])) t5 (.tup [.int 1, .int 10])) (a := l) (o := .lst [.ref t1, .ref t2, .ref t3, .ref t4, .ref t5, .ref T0'])
  generalize upd (upd (upd (upd (upd (upd (upd H6 T0' (.tup [.int (1 + i3), .int (1 + i4)])) t1 (.tup [.int 1, .int 1])) t2 (.tup [.int 1, .int 1])) t3 (.tup [.int 1, .int 2])) t4 (.tup [.int 2, .int 3])) t5 (.tup [.int 1, .int 10])) l (.lst [.ref t1, .ref t2, .ref t3, .ref t4, .ref t5, .ref T0']) = H7 at zz y0 y1 y2 y3 y4 y5 y6 pl7
  refine ⟨_, rfl, p, 6, rfl, pl7, ⟨by decide, by decide⟩, fun i5 a5 b5 hi5 hi5' ha hb hb2 => ?_⟩
  obtain ⟨x5, hx5, mx5⟩ := at_mem (xs := [.ref t1, .ref t2, .ref t3, .ref t4, .ref t5, .ref T0']) hi5 (by show i5 < (6 : Nat); omega)
  obtain ⟨tt, u, v, rfl, hu1, hu2, hv1, hv2, ht⟩ : ∃ (tt : Addr) (u v : Int), x5 = .ref tt ∧ 1 ≤ u ∧ u ≤ 10 ∧ 1 ≤ v ∧ v ≤ 10 ∧ SqT K H7 tt [.int u, .int v] := by
    simp only [List.mem_cons, List.mem_nil_iff, or_false] at mx5
    rcases mx5 with e | e | e | e | e | e
    · exact ⟨_, _, _, e, by decide, by decide, by decide, by decide, y1⟩
    · exact ⟨_, _, _, e, by decide, by decide, by decide, by decide, y2⟩
    · exact ⟨_, _, _, e, by decide, by decide, by decide, by decide, y3⟩
    · exact ⟨_, _, _, e, by decide, by decide, by decide, by decide, y4⟩
    · exact ⟨_, _, _, e, by decide, by decide, by decide, by decide, y5⟩
    · exact ⟨_, _, _, e, by omega, by omega, by omega, by omega, y0⟩
  obtain ⟨ys7, hp7⟩ := pl7.lst
  have s8 : SameP p H (upd H7 p (.lst [.int a5, .int b5])) := s6.trans ((SameP.of zz).trans SameP.put)
  have pl8 : PoolAt (upd H7 p (.lst [.int a5, .int b5])) p := pool_put ha hb hb2
  have y8 : upd H7 p (.lst [.int a5, .int b5]) l = some (.lst [.ref t1, .ref t2, .ref t3, .ref t4, .ref t5, .ref T0']) := by rw [upd_ne (Ne.symm nl)]; exact y6
  have t8 : SqT K (upd H7 p (.lst [.int a5, .int b5])) tt [.int u, .int v] := sqT_P hp7 SameP.put ht
  generalize upd H7 p (.lst [.int a5, .int b5]) = H8 at s8 pl8 y8 t8
  refine ⟨l, _, i5, .ref tt, rfl, rfl, SqL.of y8, hx5, ?_⟩
  refine ⟨_, rfl, _, rfl, _, rfl, (by show 3 ≤ sizeLine; decide), fun R hR => ?_⟩
  have s9 := same_upd (o := .tup [.int f, .int (f + r), .ref tt]) hR
  exact q _ R ⟨f, f + r, u, v⟩ (s8.trans (SameP.of s9)) (pl8.same s9) ⟨tt, SqT.of upd_same, ⟨sqT_keep (same_ext s9) t8, by show 1 ≤ u ∧ u ≤ 100; omega, by show 1 ≤ v ∧ v ≤ 100; omega⟩, hf1, by show f ≤ f + r; omega, by show f + r ≤ 1000; omega⟩
end
end Gt
/-! ## GfE3 -/
set_option Elab.async false
set_option linter.all false
set_option maxRecDepth 100000
set_option maxHeartbeats 4000000
namespace Gt
open PySem PySem.Spec PyProof.Rows L2 Wm GenW
/-! ### what the tries need -/
def nmsV (k : Nat) : List V := (List.range k).map fun j => V.str (nm j)
def nmsD (k : Nat) : PyData := .list ((List.range k).map fun j => .str (nm j))
theorem dp_each {K : PySem.W.Frag} {H : Hp} : ∀ js : List Nat, DpAll K H (js.map fun j => V.str (nm j)) (js.map fun j => PyData.str (nm j))
  | [] => .nil
  | _ :: js => .cons (.str _) (dp_each js)
theorem dp_nms {K : PySem.W.Frag} {H : Hp} {l : Addr} {k : Nat} (h : H l = some (.lst (nmsV k))) : Dp K H (.ref l) (nmsD k) := .lst (SqL.of h) (dp_each _)
theorem nms_shaped {k : Nat} (h : k < 6) : SeqAt.shaped (nmsD k) = true := by
  have : ∀ k, k < 6 → SeqAt.shaped (nmsD k) = true := by decide +kernel
  exact this k h
theorem nms_eq {k : Nat} (h : k < 6) : PyData.eqv (nmsD k) (nmsD k) = true := by
  have : ∀ k, k < 6 → PyData.eqv (nmsD k) (nmsD k) = true := by decide +kernel
  exact this k h
theorem nms_nil {k : Nat} (h : k < 6) : PyData.eqv (nmsD k) (.list []) = decide (k = 0) := by
  have : ∀ k, k < 6 → PyData.eqv (nmsD k) (.list []) = decide (k = 0) := by decide +kernel
  exact this k h
theorem DiskF.put {K : PySem.W.Frag} {H0 H : Hp} {d p : Addr} {A : DA} {S : DSt} {ys zs : List V} (D : DiskF K H0 H d A S) (hp : H0 p = some (.lst ys)) : DiskF K (upd H0 p (.lst zs)) (upd H p (.lst zs)) d A S := by
  have hH : H p = some (.lst ys) := keep_lst D.ext hp
  have nf : ∀ b ∈ foot d A, b ≠ p := fun b hb z => by
    have := D.out b hb
    rw [z, hp] at this
    cases this
  have t1 : ∀ ys, H p ≠ some (.tup ys) := fun ys z => by rw [hH] at z; cases z
  have t2 : ∀ o ys, H p ≠ some (.frz o (.tup ys)) := fun o ys z => by rw [hH] at z; cases z
  refine ⟨⟨?_, ?_, ?_, ?_, D.disk.nd1, D.disk.nd2⟩, fun b hb => ?_, fun b o hb ho => ?_, fun q hq => ?_, fun b ps z => ?_⟩
  · rw [upd_ne (nf d (by unfold foot; simp))]
    exact D.disk.ins
  · obtain ⟨dy, t, b1, b2, b3⟩ := D.disk.book
    exact ⟨dy, t, by rw [upd_ne (fun z => by rw [z, hH] at b1; cases b1)]; exact b1, sqT_put t1 t2 b2, b3⟩
  · rw [upd_ne (nf A.fd (by unfold foot; simp))]
    exact D.disk.dict
  · have key : ∀ a ∈ A.fa, a.1 ≠ p ∧ a.2 ≠ p := fun a ha => ⟨nf a.1 (by unfold foot; simp only [List.mem_cons, List.mem_append, List.mem_map]; exact .inr (.inr (.inl ⟨a, ha, rfl⟩))), nf a.2 (by unfold foot; simp only [List.mem_cons, List.mem_append, List.mem_map]; exact .inr (.inr (.inr ⟨a, ha, rfl⟩)))⟩
    refine paired_setI.paired_of D.disk.files fun i a f ha hf r => ?_
    obtain ⟨k1, k2⟩ := key a (List.mem_of_getElem? ha)
    obtain ⟨⟨dx, r1⟩, ws, r2, r3⟩ := r
    refine ⟨⟨dx, by rw [upd_ne k1]; exact r1⟩, ws, by rw [upd_ne k2]; exact r2, paired_mono r3 fun v q z => ?_⟩
    obtain ⟨t, y1, y2⟩ := z
    exact ⟨t, y1, sqT_put t1 t2 y2⟩
  · rw [upd_ne (nf b hb)]
    exact D.out b hb
  · by_cases z : b = p
    · rw [z, upd_same] at hb ⊢
      exact hb
    · rw [upd_ne z] at hb ⊢
      exact D.ext b o hb ho
  · obtain ⟨ps, q1, q2, q3⟩ := D.tab q hq
    refine ⟨ps, by rw [upd_ne (fun z => by rw [z, hH] at q1; cases q1)]; exact q1, q2, fun pos cv hc => ?_⟩
    obtain ⟨c, e1, e2⟩ := q3 pos cv hc
    exact ⟨c, e1, by rw [upd_ne (fun z => by rw [z, hH] at e2; cases e2)]; exact e2⟩
  · by_cases c : b = p
    · rw [c, upd_same] at z
      cases z
    · rw [upd_ne c] at z
      exact D.nt b ps z
def spAny (K : PySem.W.Frag) : Sp := fun vs H Q _ => ∃ (H0 : Hp) (p d nl : Addr) (A : DA) (S : DSt) (k : Nat), vs = [.ref p, .ref d, .ref nl, .int (Gf.fullestM S.b S.n k).i] ∧ DiskF K H0 H d A S ∧ S.fs = [] ∧ DOk S ∧ k < 6 ∧ PoolAt H0 p ∧ H0 nl = some (.lst (nmsV k)) ∧ nl ≠ p ∧
  ∀ H', SameP p H0 H' → PoolAt H' p → LamX.Tabs T0 H' → Q (.bl true) H'
end Gt
/-! ## GfE4 -/
set_option Elab.async false
set_option linter.all false
set_option maxRecDepth 100000
set_option maxHeartbeats 4000000
namespace Gt
open PySem PySem.Spec PyProof.Rows L2 Wm GenW
theorem passAtN {X : Cx} {W : WX} (tk : L2N.Takes X W) (σ : L2.St) : PassesAt (L2N.CX X.prog X.w) X σ (WE W σ) := fun _ _ _ e s' I c => tk e s' (L2N.XE.of_call I (fun _ _ _ h => h) c)
theorem hot_suite {X : Cx} {a : Addr} {oe : Obj} {cls : Value} {d : Option Addr} {pn : List (Addr × Obj)} (hz : L2N.Zn cls d oe) (hf : ∃ vs, oe.data = .fields vs) : WarmX (X.suite a ((a, oe) :: pn)) := by
  obtain ⟨vs, hd⟩ := hf
  exact .inr ⟨(a, oe), ⟨rfl, vs, hd, hz.2.2 vs hd⟩, List.mem_cons_self⟩
theorem grow_more_free {S : DSt} {j : Nat} {f : FSt} {many : Int} {Fr : List (Int × Int)} (o : DOk S) (hf : S.fs[j]? = some f) (fo : Gf.FreeOk S.n (allR S) Fr) (h : Gf.growA S.b S.n (absS S) j many = none) : ¬ f.size + many - f.hold ≤ Gf.sumP Fr := fun hle => by
  have hall : Gf.sumR (allR S) = Gf.holds (absS S) := all_sum o.sum
  have free : Gf.sumP Fr = S.n - Gf.holds (absS S) := by have := fo.sum; omega
  unfold Gf.growA at h
  rw [abs_at hf] at h
  have h' : (if f.size + many - f.hold ≤ 0 then some ((absS S).set j (f.size + many, f.hold)) else if S.n - Gf.holds (absS S) < f.size + many - f.hold then none else some ((absS S).set j (f.size + many, f.hold + Gf.given S.b f.hold (f.size + many - f.hold) (S.n - Gf.holds (absS S))))) = none := h
  by_cases c : f.size + many - f.hold ≤ 0
  · rw [if_pos c] at h'
    cases h'
  · rw [if_neg c, if_neg (by omega)] at h'
    cases h'
theorem hu64 {k : Nat} {A : Around} (hr : Room k A) : A.units + 64 < cLine := by
  have := hr.un
  omega
/-- what e.name, e.need, the idle blocks and the room say in the suite -/
abbrev tSuite (K : PySem.W.Frag) (a : Addr) (cls : Value) (dd : Option Addr) : TS := tIfS (tOr (tTest (tOp rNe (tXf a cls dd 260 "name" (tVar 8)) (tVar 4))) (tOr (tTest (tOp rNe (tXf a cls dd 260 "need" (tVar 8)) (tOp (rI0 fun i j => .int (i - j)) (tVar 7) (tProp 956 spIdle [] E0 (tVar 6))))) (tTest (tOp (rI0 fun i j => .bl (decide (i ≤ j))) (tXf a cls dd 260 "need" (tVar 8)) (tMeth 838 "amount" (spAmount K) [] E0 (tMeth 1105 "free" (spFree K) [] E0 (tVar 1) tNil) tNil))))) (tRet (tC (.bl false))) tNext
section
variable {P : Program} {w : World} {K : PySem.W.Frag} {mg : Str → Option Value} {base : Heap}
theorem ok_law_any (T : Txt K mg) (TB : LamX.TabB base mg 688 684) : CalC P w K mg base 15 "_law_any" (spAny K) := by
  refine calC_of T.f_law_any T.g_law_any sc_law_any (fun _ _ _ _ _ _ us hl => match us, hl with | [_, _, _, _], _ => rfl) (fun vs H Q E h => by obtain ⟨H0, p, d, nl, A1, S, k, rfl, D, hfs, ok, hk, hpl, hnl, hne, q⟩ := h; rfl) fun cdv A outer s H vs Q E hr h => ?_
  obtain ⟨H0, p, d, nl, A1, S, k, rfl, D, hfs, ok, hk, hpl, hnl, hne, q⟩ := h
  refine ⟨_, (pss_cons (ps_for PassesOwn.never rfl (pi_list (pv 2)) (pg_name (i := 4) sc_law_any.nd rfl (Or.inl rfl))
    (pss_one (ps_expr (pe_mtc (ok_Disk_make T) hr (by decide) (pv 1) (pa_cons (pv 4) pa_nil)))))
  (pss_cons (ps_for PassesOwn.never rfl (pi_range1 rfl T.b_range (pa_cons (pe_op op_mul pe_int (pe_callTy call_int1 rfl T.b_int (by decide +kernel) (pa_cons (pe_cmpR (op_neD (hu64 hr)) (pv 2) (pe_lst pa_nil) (nomark _)) pa_nil))) pa_nil)) (pg_name (i := 5) sc_law_any.nd rfl (Or.inl rfl))
    (pss_cons (ps_set (i := 4) sc_law_any.nd rfl (Or.inl rfl) (pe_ix (r := rIxL K) ix_list (pv 2) (pe_cc (ok_law_draw T) hr (by decide) rfl (pa_cons (pv 0) (pa_cons (pe_callB call_len_seq rfl T.b_len (by decide +kernel) (pa_cons (pv 2) pa_nil)) pa_nil))) (fun _ _ => rfl)))
    (pss_cons (ps_set (i := 6) sc_law_any.nd rfl (Or.inl rfl) (pe_getO (ok_Disk_getitem T) hr (by decide) (pv 1) (pv 4)))
    (pss_cons (ps_set (i := 7) sc_law_any.nd rfl (Or.inl rfl) (pe_ix (r := rIxL K) ix_list (pe_lst (pa_cons pe_int (pa_cons (pe_op op_add (pe_prw (j := 14) (ok_File_idle T) ⟨hr.dp, hr.un⟩ (by decide) (.inl rfl) (pv 6)) pe_int) (pa_cons (pe_op op_add pe_int (pe_cc (ok_law_draw T) hr (by decide) rfl (pa_cons (pv 0) (pa_cons pe_int pa_nil)))) pa_nil)))) (pe_cc (ok_law_draw T) hr (by decide) rfl (pa_cons (pv 0) (pa_cons pe_int pa_nil))) (fun _ _ => rfl)))
    (C8.pss_cut (L2N.ps_try_as (i := 8) (c := .ref 260) rfl rfl sc_law_any.nd rfl rfl ⟨rfl, by decide, .inl T.g_Refused⟩ takes0N (fun W pn xe tk _ => pss_one (ps_expr (pe_mtxS (ok_Disk_grow T TB) hr (by decide) (fun σ => passAtN tk σ) (pv 1) (pa_cons (pv 4) (pa_cons (pv 7) pa_nil))))) (fun a oe cls dd pn hz hf => (pss_one (ps_if (PW.pt (pw_or (pt_cmpR op_ne (pe_xf T.xf_Refused T.xn_name hz.zc hf (pv 8)) (pv 4) (nomark _)) (pw_or (pt_cmpR op_ne (pe_xf T.xf_Refused T.xn_need hz.zc hf (pv 8)) (pe_op op_sub (pv 7) (pe_prw (j := 14) (ok_File_idle T) ⟨hr.dp, hr.un⟩ (by decide) (hot_suite hz hf) (pv 6))) (nomark _)) (pw_or1 (pt_cmpR op_le (pe_xf T.xf_Refused T.xn_need hz.zc hf (pv 8)) (pe_mtw0 (j := 14) (ok_Room_amount T) ⟨hr.dp, hr.un⟩ (by decide) (hot_suite hz hf) (pe_mtw0 (j := 14) (ok_Disk_free T TB) ⟨hr.dp, hr.un⟩ (by decide) (hot_suite hz hf) (pv 1))) (nomark _)))))) (pss_one (ps_ret pe_bl)) pss_nil))))
    (pss_one (ps_if (pt_cmpR op_gt (pe_cc (ok_law_idle T) hr (by decide) rfl (pa_cons (pv 1) pa_nil)) (pv 3) (nomark _))
      (pss_one (ps_ret pe_bl))
      pss_nil)))))))
  (pss_one (ps_ret pe_bl)))), ?_⟩
  have hbk := bk_ok D.disk.book ok.bk
  have n1 := ok.n1
  have ab0 : absS S = [] := by
    unfold absS
    rw [hfs] <;> rfl
  have nmv : ∀ (i : Nat) (x : V), (nmsV k)[i]? = some x → x = .str (nm i) ∧ i < k := fun i x hx => by
    unfold nmsV at hx
    rw [List.getElem?_map] at hx
    cases hr : (List.range k)[i]? with
    | none => rw [hr] at hx; cases hx
    | some j =>
      rw [hr] at hx
      obtain ⟨hl, e⟩ := List.getElem?_eq_some_iff.mp hr
      rw [List.getElem_range] at e
      rw [List.length_range] at hl
      exact ⟨by rw [← Option.some.inj hx, e], hl⟩
  have nml : (nmsV k).length = k := by unfold nmsV; rw [List.length_map, List.length_range]
  refine ⟨_, rfl, nl, rfl, ⟨_, SqL.of (keep_lst D.ext hnl)⟩, ?_⟩
  refine for_list (K := K) (a := nl) (xs := nmsV k) (fun i σ H' => (∃ x4 x5 x6 x7 x8, σ = [some (.ref p), some (.ref d), some (.ref nl), some (.int (Gf.fullestM S.b S.n k).i), x4, x5, x6, x7, x8]) ∧ ∃ A' S', DiskF K H0 H' d A' S' ∧ DOk S' ∧ Named S' ∧ S'.fs.length = i ∧ S'.b = S.b ∧ S'.n = S.n ∧ Gf.Grown S.b S.n (absS S')) ?_ ?_ ?_ ?_
  · refine ⟨⟨_, _, _, _, _, rfl⟩, A1, S, D, ok, ?_, by rw [hfs] <;> rfl, rfl, rfl, by rw [ab0]; exact Gf.grown_new (by omega)⟩
    show S.fs.map (·.nm) = _
    rw [hfs] <;> rfl
  · rintro i σ H' _ ⟨_, A', S', D', _⟩
    exact SqL.of (keep_lst D'.ext hnl)
  · rintro i x σ H' hx ⟨⟨x4, x5, x6, x7, x8, rfl⟩, A', S', D', ok', nm', hl', eb, en, gr⟩
    obtain ⟨rfl, hik⟩ := nmv i x hx
    subst hl'
    refine ⟨_, rfl, d, A'.dx, _, rfl, D'.disk.ins, rfl, _, rfl, H0, d, A', S', S'.fs.length, rfl, D', nm'.new, by omega, by omega, fun H2 A2 D2 => ?_⟩
    obtain ⟨ok2, nm2, ab2⟩ := ok'.made nm' (by omega)
    refine ⟨⟨_, _, _, _, _, rfl⟩, A2, _, D2, ok2, nm2, by show (S'.fs ++ [_]).length = _; rw [List.length_append, List.length_singleton], eb, en, ?_⟩
    rw [ab2]
    exact Gf.grown_make gr
  · rintro σ H1 ⟨⟨x4, x5, x6, x7, x8, rfl⟩, A', S', D', ok', nm', hl', eb, en, gr⟩
    rw [nml] at hl'
    refine ⟨_, rfl, (by show 0 ≤ sizeLine; decide), fun l0 hl0 => ⟨nmsD k, .list [], dp_nms (keep_lst (D'.ext.trans (same_ext (same_upd hl0))) hnl), .lst (SqL.of upd_same) .nil, nms_shaped hk, by decide +kernel, ?_⟩⟩
    have D1 := D'.same (same_upd (o := .lst []) hl0)
    generalize upd H1 l0 (.lst []) = H2 at D1
    rw [nms_nil hk]
    refine .inr ⟨_, rfl, _, _, rfl, rfl, .inl ⟨by decide, by decide⟩, _, rfl, ?_⟩
    obtain ⟨w1, hw, w0, w12, wk⟩ : ∃ w1 : Int, w1 = 12 * (if (!decide (k = 0)) = true then 1 else 0) ∧ 0 ≤ w1 ∧ w1 ≤ 12 ∧ (0 < w1 → k ≠ 0) := by
      by_cases z : k = 0
      · exact ⟨0, by simp [z], by decide, by decide, fun h => absurd h (by decide)⟩
      · exact ⟨12, by simp [z], by decide, by decide, fun _ => z⟩
    rw [← hw]
    refine ⟨by omega, by omega, ?_⟩
    refine for_range (lo := 0) (n := w1.toNat) (fun i σ H' => (∃ x4 x5 x6 x7 x8, σ = [some (.ref p), some (.ref d), some (.ref nl), some (.int (Gf.fullestM S.b S.n k).i), x4, x5, x6, x7, x8]) ∧ ∃ H0' A' S', DiskF K H0' H' d A' S' ∧ SameP p H0 H0' ∧ PoolAt H0' p ∧ DOk S' ∧ Named S' ∧ S'.fs.length = k ∧ S'.b = S.b ∧ S'.n = S.n ∧ Gf.Grown S.b S.n (absS S')) ?_ ?_ ?_
    · exact ⟨⟨_, _, _, _, _, rfl⟩, H0, A', S', D1, fun _ _ h _ => h, hpl, ok', nm', hl', eb, en, gr⟩
    · rintro i σ H3 hi ⟨⟨y4, y5, y6, y7, y8, rfl⟩, H0', A3, S3, D3, sp, pl, ok3, nm3, hl3, eb3, en3, gr3⟩
      have k1 : k ≠ 0 := wk (by omega)
      have plH : PoolAt H3 p := by
        obtain ⟨a, b, h1, h2⟩ := pl
        exact ⟨a, b, keep_lst D3.ext h1, h2⟩
      have hnl0 : H0' nl = some (.lst (nmsV k)) := sp _ _ hnl hne
      -- the name
      refine ⟨_, rfl, _, rfl, _, rfl, nl, nmsV k, rfl, .inl (SqL.of (keep_lst D3.ext hnl0)), p, _, rfl, plH, by rw [nml]; omega, fun i4 a4 b4 hi4 hi4' ha hb hb2 => ?_⟩
      rw [nml] at hi4'
      obtain ⟨ys0, hp0⟩ := pl.lst
      have D4 := D3.put (zs := [.int a4, .int b4]) hp0
      have sp4 : SameP p H0 (upd H0' p (.lst [.int a4, .int b4])) := sp.trans SameP.put
      have pl4 : PoolAt (upd H0' p (.lst [.int a4, .int b4])) p := pool_put ha hb hb2
      have plH4 : PoolAt (upd H3 p (.lst [.int a4, .int b4])) p := pool_put ha hb hb2
      have hn4 : upd H3 p (.lst [.int a4, .int b4]) nl = some (.lst (nmsV k)) := by rw [upd_ne hne]; exact keep_lst D3.ext hnl0
      generalize upd H3 p (.lst [.int a4, .int b4]) = H4 at D4 plH4 hn4
      generalize upd H0' p (.lst [.int a4, .int b4]) = G4 at D4 sp4 pl4
      obtain ⟨j, rfl⟩ : ∃ j : Nat, i4 = j := ⟨i4.toNat, by omega⟩
      have jk : j < k := by omega
      have hxj : (nmsV k)[j]? = some (.str (nm j)) := by
        have hj : j < (nmsV k).length := by omega
        obtain ⟨e, _⟩ := nmv j _ (List.getElem?_eq_getElem hj)
        rw [List.getElem?_eq_getElem hj, e]
      refine ⟨nl, nmsV k, _, .str (nm j), rfl, rfl, SqL.of hn4, atI_nat hxj, ?_⟩
      -- the file
      obtain ⟨f, hf⟩ : ∃ f, S3.fs[j]? = some f := ⟨S3.fs[j]'(by omega), List.getElem?_eq_getElem _⟩
      have fn : f.nm = nm j := nm3.at_ hf
      obtain ⟨a, haa, ⟨dxf, hfa⟩, hrl⟩ := paired_at' D4.disk.files hf
      refine ⟨_, rfl, _, rfl, d, A3.dx, _, rfl, D4.disk.ins, d, A3, S3, nm j, j, f, a, rfl, D4.disk, ok3.nd, hf, haa, fn, ?_⟩
      have zf := ok3.sz f (List.mem_of_getElem? hf)
      have hold_le : f.hold ≤ 300 := by
        have h1 : f.hold ≤ Gf.holds (absS S3) := hold_mem hf (fun g hg => by have := ok3.sz g hg; omega)
        have h2 := ok3.tot
        have h3 := ok3.n1
        omega
      -- more
      refine ⟨_, rfl, a.1, dxf, _, rfl, hfa, a.1, dxf, d, a.2, f.nm, f.size, f.hold, rfl, hfa, _, _, rfl, rfl, _, rfl, p, 9, rfl, plH4, ⟨by decide, by decide⟩, fun i5 a5 b5 hi5 hi5' ha hb hb2 => ⟨_, _, rfl, rfl, (by show 3 ≤ sizeLine; decide), fun l hl => ?_⟩⟩
      obtain ⟨ys4, hp4⟩ := pl4.lst
      have D5 := D4.put (zs := [.int a5, .int b5]) hp4
      have sp5 : SameP p H0 (upd G4 p (.lst [.int a5, .int b5])) := sp4.trans SameP.put
      have pl5 : PoolAt (upd G4 p (.lst [.int a5, .int b5])) p := pool_put ha hb hb2
      have D6 := D5.same (same_upd (o := .lst [.int 1, .int (f.hold - f.size + 1), .int (1 + i5)]) hl)
      have plH6 : PoolAt (upd (upd H4 p (.lst [.int a5, .int b5])) l (.lst [.int 1, .int (f.hold - f.size + 1), .int (1 + i5)])) p := (pool_put ha hb hb2).same (same_upd hl)
      have hl6 : upd (upd H4 p (.lst [.int a5, .int b5])) l (.lst [.int 1, .int (f.hold - f.size + 1), .int (1 + i5)]) l = some (.lst [.int 1, .int (f.hold - f.size + 1), .int (1 + i5)]) := upd_same
      have npl : p ≠ l := pool_ne (pool_put ha hb hb2) hl
      generalize upd (upd H4 p (.lst [.int a5, .int b5])) l (.lst [.int 1, .int (f.hold - f.size + 1), .int (1 + i5)]) = H6 at D6 plH6 hl6
      generalize upd G4 p (.lst [.int a5, .int b5]) = G5 at D6 D5 sp5 pl5
      refine ⟨_, rfl, p, 3, rfl, plH6, ⟨by decide, by decide⟩, fun i6 a6 b6 hi6 hi6' ha hb hb2 => ?_⟩
      obtain ⟨x6, hx6, mx6⟩ := at_mem (xs := [.int 1, .int (f.hold - f.size + 1), .int (1 + i5)]) hi6 (by show i6 < (3 : Nat); omega)
      obtain ⟨m, rfl, hm1, hm2⟩ : ∃ m : Int, x6 = .int m ∧ 1 ≤ m ∧ m ≤ 1000 := by
        simp only [List.mem_cons, List.mem_nil_iff, or_false] at mx6
        rcases mx6 with e | e | e
        · exact ⟨_, e, by decide, by decide⟩
        · exact ⟨_, e, by omega, by omega⟩
        · exact ⟨_, e, by omega, by omega⟩
      obtain ⟨ys5, hp5⟩ := pl5.lst
      have D7 := D6.put (zs := [.int a6, .int b6]) hp5
      have sp7 : SameP p H0 (upd G5 p (.lst [.int a6, .int b6])) := sp5.trans SameP.put
      have pl7 : PoolAt (upd G5 p (.lst [.int a6, .int b6])) p := pool_put ha hb hb2
      have hl7 : upd H6 p (.lst [.int a6, .int b6]) l = some (.lst [.int 1, .int (f.hold - f.size + 1), .int (1 + i5)]) := by rw [upd_ne (Ne.symm npl)]; exact hl6
      generalize upd H6 p (.lst [.int a6, .int b6]) = H7 at D7 hl7
      generalize upd G5 p (.lst [.int a6, .int b6]) = G7 at D7 sp7 pl7
      refine ⟨l, _, i6, .int m, rfl, rfl, SqL.of hl7, hx6, ?_⟩
      -- the try
      refine ⟨fun σ' H' => (∃ x4 x5 x6 x7 x8, σ' = [some (.ref p), some (.ref d), some (.ref nl), some (.int (Gf.fullestM S.b S.n k).i), x4, x5, x6, x7, x8]) ∧ ∃ A' S', DiskF K G7 H' d A' S' ∧ DOk S' ∧ Named S' ∧ S'.fs.length = k ∧ S'.b = S.b ∧ S'.n = S.n ∧ Gf.Grown S.b S.n (absS S'), ?_, ?_⟩
      · refine ⟨_, rfl, d, A3.dx, _, rfl, D7.disk.ins, rfl, _, rfl, _, rfl, G7, d, A3, S3, j, f, nm j, m, rfl, D7, ok3, hf, fn, ⟨by omega, hm2⟩, fun H8 S8 v D8 ok8 nx8 => ?_, fun H8 dd hgn D8 hdd => ⟨true, T.xe_Refused, fun _ ae hae => ?_, fun z => Bool.noConfusion z⟩⟩
        · have l8 : S8.fs.length = S3.fs.length := by
            have := congrArg List.length nx8.2.2.2.1
            rw [List.length_map, List.length_map] at this
            exact this
          have g8 := nx8.2.2.2.2
          rw [eb3, en3] at g8
          exact ⟨⟨_, _, _, _, _, rfl⟩, A3, S8, D8, ok8, Nx.named nm3 nx8, l8.trans hl3, nx8.1.trans eb3, nx8.2.1.trans en3, Gf.grown_step hbk hm1 gr3 g8⟩
        · obtain ⟨g9, hg9, ⟨dx9, hfa9⟩, _⟩ : ∃ g9, S3.fs[j]? = some g9 ∧ FileAt K H8 d a g9 := by
            obtain ⟨g9, h1, h2⟩ := paired_at D8.disk.files haa
            exact ⟨g9, h1, h2⟩
          have e9 : g9 = f := by rw [hf] at hg9; exact (Option.some.inj hg9).symm
          subst e9
          refine ⟨_, rfl, rfl, rfl, dd, _, _, rfl, hdd, rfl, _, rfl, rfl, _, rfl, ?_⟩
          refine ifNN rfl ?_
          refine ⟨_, rfl, rfl, rfl, dd, _, _, rfl, hdd, rfl, _, rfl, _, rfl, a.1, dx9, _, rfl, hfa9, a.1, dx9, d, a.2, g9.nm, g9.size, g9.hold, rfl, hfa9, _, _, rfl, rfl, rfl, _, rfl, ifNN (congrArg V.int (by omega)) ?_⟩
          refine ⟨_, rfl, rfl, rfl, dd, _, _, rfl, hdd, rfl, _, rfl, d, A3.dx, _, rfl, D8.disk.ins, rfl, d, A3, S3, rfl, D8.disk, ok3, D8.tab, fun H9 z Fr e9 t9 fo fl hz => ?_⟩
          obtain ⟨dz, dzp, hz1, hz2⟩ := id hz
          refine ⟨z, dz, _, rfl, hz1, rfl, z, Fr, rfl, hz, _, _, rfl, rfl, _, rfl, ifF (grow_more_free ok3 hf fo hgn) ?_⟩
          exact ⟨⟨_, _, _, _, _, rfl⟩, A3, S3, D8.keep e9 t9, ok3, nm3, hl3, eb3, en3, gr3⟩
      · rintro σ' H8 ⟨⟨u4, u5, u6, u7, u8, rfl⟩, A8, S8, D8, ok8, nm8, hl8, eb8, en8, gr8⟩
        refine ⟨_, rfl, d, A8, S8, rfl, D8.disk, ok8.nd, ok8.len, fun H9 s9 => ⟨_, rfl, _, _, rfl, rfl, _, rfl, ifF ?_ ⟨⟨_, _, _, _, _, rfl⟩, G7, A8, S8, D8.same s9, sp7, pl7, ok8, nm8, hl8, eb8, en8, gr8⟩⟩⟩
        have ib := Gf.idle_bound hbk (by omega) gr8
        rw [abs_len, hl8] at ib
        omega
    · rintro σ H3 ⟨⟨y4, y5, y6, y7, y8, rfl⟩, H0', A3, S3, D3, sp, pl, _⟩
      refine q H3 (fun b o hb hne => ?_) ?_ D3.tab
      · have h1 := sp b o hb hne
        exact D3.ext b o h1 fun ps e => D3.nt b ps (by rw [h1, e])
      · obtain ⟨a, b, h1, h2⟩ := pl
        exact ⟨a, b, keep_lst D3.ext h1, h2⟩
end
end Gt
/-! ## GfE5 -/
set_option Elab.async false
set_option linter.all false
set_option maxRecDepth 100000
set_option maxHeartbeats 4000000
/-! The plain law: the row is played. -/
namespace Gt
theorem aPlay_app {b : Gf.Bk} {n : Int} : ∀ {es fs : List Ev} {st st' : List Gf.FS}, aPlay b n st es = some st' → aPlay b n st (es ++ fs) = aPlay b n st' fs
  | [], fs, st, st', h => by
    have e : st = st' := Option.some.inj h
    rw [e] <;> rfl
  | e :: es, fs, st, st', h => by
    have h' : (match aStep b n st e with
      | some st1 => aPlay b n st1 es
      | none => none) = some st' := h
    show (match aStep b n st e with
      | some st1 => aPlay b n st1 (es ++ fs)
      | none => none) = _
    cases hq : aStep b n st e with
    | none => rw [hq] at h'; cases h'
    | some st1 =>
      rw [hq] at h'
      exact aPlay_app h'
theorem play_makes {b : Gf.Bk} {n : Int} : ∀ k : Nat, aPlay b n [] ((List.range k).map Ev.mk) = some (List.replicate k (0, 0))
  | 0 => rfl
  | k + 1 => by
    rw [List.range_succ, List.map_append, aPlay_app (play_makes k)]
    show (match (if k = (List.replicate k ((0 : Int), (0 : Int))).length then some (List.replicate k (0, 0) ++ [(0, 0)]) else none) with
      | some st1 => aPlay b n st1 []
      | none => none) = _
    rw [if_pos (by rw [List.length_replicate])]
    show some (List.replicate k ((0 : Int), (0 : Int)) ++ [(0, 0)]) = _
    rw [List.replicate_succ']
theorem grow_len {b : Gf.Bk} {n : Int} {st st' : List Gf.FS} {j : Nat} {m : Int} (h : Gf.growA b n st j m = some st') : st'.length = st.length := by
  unfold Gf.growA at h
  split at h
  · cases h
  · split at h
    · rw [← Option.some.inj h, List.length_set]
    · split at h
      · cases h
      · rw [← Option.some.inj h, List.length_set]
theorem play_g {b : Gf.Bk} {n : Int} {j : Nat} : ∀ {g : List Int} {st st' : List Gf.FS}, j < st.length → Gf.playG b n st j g = some st' → aPlay b n st (g.map (Ev.gr j)) = some st' ∧ st'.length = st.length
  | [], st, st', _, h => ⟨h, by rw [Option.some.inj h]⟩
  | m :: g, st, st', hj, h => by
    have h' : (match Gf.growA b n st j m with
      | some st1 => Gf.playG b n st1 j g
      | none => none) = some st' := h
    show (match (if j < st.length then Gf.growA b n st j m else none) with
      | some st1 => aPlay b n st1 (g.map (Ev.gr j))
      | none => none) = _ ∧ _
    rw [if_pos hj]
    cases hq : Gf.growA b n st j m with
    | none => rw [hq] at h'; cases h'
    | some st1 =>
      rw [hq] at h'
      have hl := grow_len hq
      obtain ⟨h1, h2⟩ := play_g (by omega) h'
      exact ⟨h1, by omega⟩
theorem play_rows {b : Gf.Bk} {n : Int} : ∀ {rows : List (List Int)} {j : Nat} {st st' : List Gf.FS}, j + rows.length ≤ st.length → Gf.playR b n st j rows = some st' → aPlay b n st (rowsFrom j rows) = some st'
  | [], _, _, _, _, h => h
  | g :: r, j, st, st', hl, h => by
    have h' : (match Gf.playG b n st j g with
      | some st1 => Gf.playR b n st1 (j + 1) r
      | none => none) = some st' := h
    rw [List.length_cons] at hl
    cases hq : Gf.playG b n st j g with
    | none => rw [hq] at h'; cases h'
    | some st1 =>
      rw [hq] at h'
      obtain ⟨h1, h2⟩ := play_g (by omega) hq
      show aPlay b n st (g.map (Ev.gr j) ++ rowsFrom (j + 1) r) = _
      rw [aPlay_app h1]
      exact play_rows (by omega) h'
theorem play_row {b : Gf.Bk} {n : Int} {k : Nat} {rows : List (List Int)} {st' : List Gf.FS} (hl : rows.length ≤ k) (h : Gf.playR b n (List.replicate k (0, 0)) 0 rows = some st') : aPlay b n [] (rowM rows k) = some st' := by
  unfold rowM
  rw [aPlay_app (play_makes k)]
  exact play_rows (by rw [List.length_replicate]; omega) h
theorem row_ok {rows : List (List Int)} {k : Nat} (hk : k ≤ 8) (hl : rows.length ≤ k) (hg : ∀ g ∈ rows, g.length ≤ 2 ∧ ∀ m ∈ g, 1 ≤ m ∧ m ≤ 1000) : (∀ e ∈ rowM rows k, EvOk e) ∧ (rowM rows k).length ≤ 1000 := by
  have key : ∀ (rows : List (List Int)) (j : Nat), j + rows.length ≤ 8 → (∀ g ∈ rows, g.length ≤ 2 ∧ ∀ m ∈ g, 1 ≤ m ∧ m ≤ 1000) → ∀ e ∈ rowsFrom j rows, EvOk e := by
    intro rows
    induction rows with
    | nil => intro j _ _ e he; cases he
    | cons g r ih =>
      intro j hj hg e he
      rw [List.length_cons] at hj
      rcases List.mem_append.mp (show e ∈ g.map (Ev.gr j) ++ rowsFrom (j + 1) r from he) with z | z
      · obtain ⟨m, hm, ee⟩ := List.mem_map.mp z
        have h1 := (hg g List.mem_cons_self).2 m hm
        rw [← ee]
        exact ⟨by omega, by omega, h1.2⟩
      · exact ih (j + 1) (by omega) (fun q hq => hg q (List.mem_cons_of_mem _ hq)) e z
  refine ⟨fun e he => ?_, ?_⟩
  · rcases List.mem_append.mp (show e ∈ (List.range k).map Ev.mk ++ rowsFrom 0 rows from he) with z | z
    · obtain ⟨j, hj, ee⟩ := List.mem_map.mp z
      have := List.mem_range.mp hj
      rw [← ee]
      show j < 8
      omega
    · exact key rows 0 (by omega) hg e z
  · have := rowsFrom_len rows 0 fun g hg' => (hg g hg').1
    unfold rowM
    rw [List.length_append, List.length_map, List.length_range]
    omega
end Gt
/-! ## GfE6 -/
set_option Elab.async false
set_option linter.all false
set_option maxRecDepth 100000
set_option maxHeartbeats 4000000
namespace Gt
open PySem PySem.Spec PyProof.Rows L2 Wm GenW
/-! ### the law -/
theorem BookAt.P {K : PySem.W.Frag} {p a : Addr} {H H' : Hp} {ys : List V} {b : Gf.Bk} (hp : H p = some (.lst ys)) (s : SameP p H H') (h : BookAt K H a b) : BookAt K H' a b := by
  obtain ⟨dx, t, h1, h2, h3⟩ := h
  exact ⟨dx, t, s _ _ h1 (fun z => by rw [z, hp] at h1; cases h1), sqT_P hp s h2, h3⟩
theorem names_cut : ∀ k : Nat, k < 6 → cutV [.str "a", .str "b", .str "c", .str "d", .str "e"] none (some (k : Int)) = nmsV k
  | 0, _ => rfl
  | 1, _ => rfl
  | 2, _ => rfl
  | 3, _ => rfl
  | 4, _ => rfl
  | 5, _ => rfl
  | k + 6, h => absurd h (by omega)
theorem tabs_P {T : List (Addr × Str)} {p : Addr} {H H' : Hp} {ys : List V} (hp : H p = some (.lst ys)) (s : SameP p H H') (t : LamX.Tabs T H) : LamX.Tabs T H' := fun q hq => by
  obtain ⟨ps, q1, q2, q3⟩ := t q hq
  refine ⟨ps, s _ _ q1 (fun z => by rw [z, hp] at q1; cases q1), q2, fun pos cv hc => ?_⟩
  obtain ⟨c, e1, e2⟩ := q3 pos cv hc
  exact ⟨c, e1, s _ _ e2 (fun z => by rw [z, hp] at e2; cases e2)⟩
theorem sqL_noT {K : PySem.W.Frag} {H : Hp} {t : Addr} {xs : List V} (h : SqL K H t xs) : SqL K (noT H) t xs := by
  rcases h with (h | ⟨o, h⟩) | h
  · exact .inl (.inl (noT_some h fun ps z => by cases z))
  · exact .inl (.inr ⟨o, noT_some h fun ps z => by cases z⟩)
  · exact .inr h
def spLaw (K : PySem.W.Frag) : Sp := fun vs H Q _ => ∃ (s : Addr) (ns : List Int), vs = [.ref s] ∧ SqL K H s (ns.map V.int) ∧ ns.length ≤ 63 ∧ LamX.Tabs T0 H ∧ ∀ H', Q (.bl true) H'
section
variable {P : Program} {w : World} {K : PySem.W.Frag} {mg : Str → Option Value} {base : Heap}
theorem fn_law (T : Txt K mg) (TB : LamX.TabB base mg 688 684) {fd : FuncData} (F : FunD K "law" "law" (defArgs s_law) (defBody s_law) (defScope s_law) [] [] 1184 fd) : FnOk P w K mg base CX0 17 1184 fd ["_law_script"] (spLaw K) := by
  refine okC F sc_law (fun vs H Q E h => by obtain ⟨s, ns, rfl, hs, hl, hT, q⟩ := h; rfl) fun cdv A outer s H vs Q E hr h => ?_
  obtain ⟨s, ns, rfl, hs, hl, hT, q⟩ := h
  refine ⟨_, (pss_cons (ps_for PassesOwn.never rfl (pi_range1 rfl T.b_range (pa_cons (pe_callB (call_max2 rfl) rfl T.b_max (by decide +kernel) (pa_cons pe_int (pa_cons (pe_callB (call_min2 rfl) rfl T.b_min (by decide +kernel) (pa_cons (pe_callB call_len_seq rfl T.b_len (by decide +kernel) (pa_cons (pv 0) pa_nil)) (pa_cons pe_int pa_nil))) pa_nil))) pa_nil)) (pg_name (i := 1) sc_law.nd rfl (Or.inl rfl))
    (pss_cons (ps_set (i := 2) sc_law.nd rfl (Or.inl rfl) (pe_cc (ok_law_hand T) hr (by decide) rfl (pa_cons (pv 0) (pa_cons (pv 1) pa_nil))))
    (pss_cons (ps_set (i := 3) sc_law.nd rfl (Or.inl rfl) (pe_cc (ok_law_book T) hr (by decide) rfl (pa_cons (pe_cc (ok_law_parts T) hr (by decide) rfl (pa_cons (pv 2) pa_nil)) pa_nil)))
    (pss_cons (ps_set (i := 4) sc_law.nd rfl (Or.inl rfl) (pe_op op_add pe_int (pe_cc (ok_law_draw T) hr (by decide) rfl (pa_cons (pv 2) (pa_cons (pe_ix (r := rIxL K) ix_list (pe_lst (pa_cons pe_int (pa_cons pe_int (pa_cons pe_int pa_nil)))) (pe_cc (ok_law_draw T) hr (by decide) rfl (pa_cons (pv 2) (pa_cons pe_int pa_nil))) (fun _ _ => rfl)) pa_nil)))))
    (pss_cons (ps_set (i := 5) sc_law.nd rfl (Or.inl rfl) (pe_cc (ok_law_draw T) hr (by decide) rfl (pa_cons (pv 2) (pa_cons pe_int pa_nil))))
    (pss_cons (ps_set (i := 6) sc_law.nd rfl (Or.inl rfl) (pe_slice sl_list (pe_lst (pa_cons pe_str (pa_cons pe_str (pa_cons pe_str (pa_cons pe_str (pa_cons pe_str pa_nil)))))) po_none (po_some (pv 5))))
    (pss_cons (ps_set (i := 7) sc_law.nd rfl (Or.inl rfl) (pe_cc (ok_idle_row_on T) hr (by decide) rfl (pa_cons (pv 3) (pa_cons (pv 4) (pa_cons (pv 5) pa_nil)))))
    (pss_cons (ps_set (i := 8) sc_law.nd rfl (Or.inl rfl) (pe_cc (ok_most_idle_on T) hr (by decide) rfl (pa_cons (pv 3) (pa_cons (pv 4) (pa_cons (pv 5) pa_nil)))))
    (pss_one (ps_for PassesOwn.never rfl (pi_list (pe_lst (pa_cons pe_str (pa_cons pe_str (pa_cons pe_str (pa_cons pe_str pa_nil)))))) (pg_name (i := 9) sc_law.nd rfl (Or.inl rfl))
      (pss_cons (ps_set (i := 10) sc_law.nd rfl (Or.inl rfl) (pe_cc (ok_played T TB) hr (by decide) rfl (pa_cons (pe_mkk (ok_Disk_new T) hr (by decide) rfl (pa_cons (pv 3) pa_nil) (pk_cons (pv 9) (pk_cons (pv 4) pk_nil))) (pa_cons (pv 7) pa_nil))))
      (pss_cons (ps_if (PW.pt (pw_or (pt_cmpR (op_neD (hu64 hr)) (pe_mtc0 (ok_Disk_names T) hr (by decide) (pv 10)) (pv 6) (nomark _)) (pw_or1 (pt_cmpR op_ne (pe_cc (ok_law_idle T) hr (by decide) rfl (pa_cons (pv 10) pa_nil)) (pv 8) (nomark _)))))
        (pss_one (ps_ret pe_bl))
        pss_nil)
      (pss_one (ps_if (pt_not (pt_val (pe_cc (ok_law_any T TB) hr (by decide) rfl (pa_cons (pv 2) (pa_cons (pe_mkk (ok_Disk_new T) hr (by decide) rfl (pa_cons (pv 3) pa_nil) (pk_cons (pv 9) (pk_cons (pv 4) pk_nil))) (pa_cons (pv 6) (pa_cons (pv 8) pa_nil)))))))
        (pss_one (ps_ret pe_bl))
        pss_nil))))))))))))))
  (pss_one (ps_ret pe_bl))), ?_⟩
  refine ⟨_, rfl, _, _, rfl, .inl hs, _, _, rfl, _, _, rfl, _, rfl, ?_, ?_, ?_⟩
  · split <;> split <;> omega
  · split <;> split <;> omega
  refine for_range (lo := 0) (fun i σ H' => (∃ x1 x2 x3 x4 x5 x6 x7 x8 x9 x10, σ = [some (.ref s), x1, x2, x3, x4, x5, x6, x7, x8, x9, x10]) ∧ LamX.ExtN (noT H) H' ∧ LamX.Tabs T0 H') ?_ ?_ ?_
  · exact ⟨⟨_, _, _, _, _, _, _, _, _, _, rfl⟩, noT_ext, hT⟩
  · rintro i σ H0 hi ⟨⟨x1, x2, x3, x4, x5, x6, x7, x8, x9, x10, rfl⟩, e0, t0⟩
    have i3 : i < 3 := by
      revert hi
      split <;> split <;> omega
    have e00 : (0 : Int) + (i : Int) = (i : Int) := Int.zero_add _
    rw [e00]
    -- the pool
    refine ⟨_, rfl, _, rfl, s, ns, i, rfl, sqL_keep e0 (sqL_noT hs), by omega, hl, fun H1 p s1 hp0 pl1 => ?_⟩
    have t1 := t0.ext s1
    have pf : noT H p = none := by
      cases hz : noT H p with
      | none => rfl
      | some o =>
        have := e0 p o hz fun ps e => noT_nt p ps (by rw [hz, e])
        rw [hp0] at this
        cases this
    -- the book
    refine ⟨_, rfl, p, rfl, pl1, fun H2 tp b sp2 pl2 pa => ⟨tp, b, rfl, pa, fun H3 ba s3 hb3 => ?_⟩⟩
    obtain ⟨_, _, _, hb1, hb2, hb3'⟩ := pa
    have pl3 := pl2.same s3
    have sp3 : SameP p H1 H3 := sp2.trans (SameP.of s3)
    obtain ⟨ys1, hy1⟩ := pl1.lst
    have t3 : LamX.Tabs T0 H3 := tabs_P hy1 sp3 t1
    have b3 : SameP p (noT H) H3 := fun c o hc hne => sp3 c o (s1 c o (e0 c o hc fun ps e => noT_nt c ps (by rw [hc, e]))) hne
    clear sp2 sp3 pl1 pl2 t1 s1 s3 hy1
    -- the blocks
    refine ⟨_, rfl, (by show 3 ≤ sizeLine; decide), fun l1 h1 => ?_⟩
    have s4 : Same H3 (upd H3 l1 (.lst [.int 8, .int 20, .int 50])) := same_upd h1
    have g4 : upd H3 l1 (.lst [.int 8, .int 20, .int 50]) l1 = some (.lst [.int 8, .int 20, .int 50]) := upd_same
    have n4 := pool_ne pl3 h1
    have pl4 := pl3.same s4
    have t4 := t3.ext s4
    have b4 := b3.trans (SameP.of s4)
    have hb4 := hb3.keep (same_ext s4)
    generalize upd H3 l1 (.lst [.int 8, .int 20, .int 50]) = H4 at g4 pl4 t4 b4 hb4
    refine ⟨_, rfl, p, 3, rfl, pl4, ⟨by decide, by decide⟩, fun i4 a4 c4 hi4 hi4' ha hc hc2 => ?_⟩
    obtain ⟨x4', hx4, mx4⟩ := at_mem (xs := [.int 8, .int 20, .int 50]) hi4 (by show i4 < (3 : Nat); omega)
    obtain ⟨m, rfl, hm1, hm2⟩ : ∃ m : Int, x4' = .int m ∧ 8 ≤ m ∧ m ≤ 50 := by
      simp only [List.mem_cons, List.mem_nil_iff, or_false] at mx4
      rcases mx4 with e | e | e <;> exact ⟨_, e, by decide, by decide⟩
    obtain ⟨ys4, hy4⟩ := pl4.lst
    have pl5 : PoolAt (upd H4 p (.lst [.int a4, .int c4])) p := pool_put ha hc hc2
    have t5 : LamX.Tabs T0 (upd H4 p (.lst [.int a4, .int c4])) := tabs_P hy4 SameP.put t4
    have b5 := b4.trans (SameP.put (p := p) (o := .lst [.int a4, .int c4]))
    have hb5 : BookAt K (upd H4 p (.lst [.int a4, .int c4])) ba b := hb4.P hy4 SameP.put
    have g5 : upd H4 p (.lst [.int a4, .int c4]) l1 = some (.lst [.int 8, .int 20, .int 50]) := by rw [upd_ne (Ne.symm n4)]; exact g4
    generalize upd H4 p (.lst [.int a4, .int c4]) = H5 at pl5 t5 b5 hb5 g5
    refine ⟨l1, _, i4, .int m, rfl, rfl, SqL.of g5, hx4, p, m, rfl, pl5, ⟨by omega, by omega⟩, fun i5 a5 c5 hi5 hi5' ha hc hc2 => ⟨_, _, rfl, rfl, ?_⟩⟩
    obtain ⟨ys5, hy5⟩ := pl5.lst
    have pl6 : PoolAt (upd H5 p (.lst [.int a5, .int c5])) p := pool_put ha hc hc2
    have t6 : LamX.Tabs T0 (upd H5 p (.lst [.int a5, .int c5])) := tabs_P hy5 SameP.put t5
    have b6 := b5.trans (SameP.put (p := p) (o := .lst [.int a5, .int c5]))
    have hb6 : BookAt K (upd H5 p (.lst [.int a5, .int c5])) ba b := hb5.P hy5 SameP.put
    generalize upd H5 p (.lst [.int a5, .int c5]) = H6 at pl6 t6 b6 hb6
    obtain ⟨n, hn, n1, n2⟩ : ∃ n : Int, n = 1 + i5 ∧ 1 ≤ n ∧ n ≤ 50 := ⟨_, rfl, by omega, by omega⟩
    show gName 4 (V.int (1 + i5)) _ _ _
    rw [← hn]
    clear t3 b3 pl3 t4 b4 pl4 t5 b5 pl5 hb3 hb4 hb5 g4 g5
    -- the files
    refine ⟨_, rfl, p, 6, rfl, pl6, ⟨by decide, by decide⟩, fun i6 a6 c6 hi6 hi6' ha hc hc2 => ?_⟩
    obtain ⟨k, rfl⟩ : ∃ k : Nat, i6 = k := ⟨i6.toNat, by omega⟩
    have k6 : k < 6 := by omega
    obtain ⟨ys6, hy6⟩ := pl6.lst
    have pl7 : PoolAt (upd H6 p (.lst [.int a6, .int c6])) p := pool_put ha hc hc2
    have t7 : LamX.Tabs T0 (upd H6 p (.lst [.int a6, .int c6])) := tabs_P hy6 SameP.put t6
    have b7 := b6.trans (SameP.put (p := p) (o := .lst [.int a6, .int c6]))
    have hb7 : BookAt K (upd H6 p (.lst [.int a6, .int c6])) ba b := hb6.P hy6 SameP.put
    generalize upd H6 p (.lst [.int a6, .int c6]) = H7 at pl7 t7 b7 hb7
    clear t6 b6 pl6 hb6 hy6
    -- the names
    refine ⟨(by show 5 ≤ sizeLine; decide), fun l2 h2 => ⟨_, rfl, (k : Int), rfl, l2, _, rfl, SqL.of upd_same, fun nl hnl => ?_⟩⟩
    rw [names_cut k k6]
    have s8 : Same H7 _ := (same_upd (o := .lst [.str "a", .str "b", .str "c", .str "d", .str "e"]) h2).trans (same_upd (o := .lst (nmsV k)) hnl)
    have gn : upd (upd H7 l2 (.lst [.str "a", .str "b", .str "c", .str "d", .str "e"])) nl (.lst (nmsV k)) nl = some (.lst (nmsV k)) := upd_same
    have nlp : nl ≠ p := Ne.symm (pool_ne (pl7.same (same_upd h2)) hnl)
    generalize upd (upd H7 l2 (.lst [.str "a", .str "b", .str "c", .str "d", .str "e"])) nl (.lst (nmsV k)) = H8 at s8 gn
    have pl8 := pl7.same s8
    have t8 := t7.ext s8
    have b8 := b7.trans (SameP.of s8)
    have hb8 := hb7.keep (same_ext s8)
    clear t7 b7 pl7 hb7 h2 hnl s8
    -- the row, what is due
    refine ⟨_, rfl, _, rfl, _, rfl, ba, b, n, k, rfl, hb8, ⟨hb1, hb2, hb3'⟩, ⟨n1, by omega⟩, by omega, fun H9 r s9 hrow => ?_⟩
    refine ⟨_, rfl, _, rfl, _, rfl, ba, b, n, k, rfl, hb8.keep (same_ext s9), ⟨hb1, hb2, hb3'⟩, ⟨n1, by omega⟩, by omega, fun H10 s10 => ?_⟩
    refine ⟨(by show 4 ≤ sizeLine; decide), fun lp hlp => ⟨lp, rfl, ⟨_, SqL.of upd_same⟩, ?_⟩⟩
    have s11 : Same H8 _ := s9.trans (s10.trans (same_upd (o := .lst [.str "behind", .str "first", .str "best", .str "next"]) hlp))
    have glp : upd H10 lp (.lst [.str "behind", .str "first", .str "best", .str "next"]) lp = some (.lst [.str "behind", .str "first", .str "best", .str "next"]) := upd_same
    have lpp : lp ≠ p := Ne.symm (pool_ne (pl8.same (s9.trans s10)) hlp)
    have hrow11 := hrow.keep (same_ext (s10.trans (same_upd (o := .lst [.str "behind", .str "first", .str "best", .str "next"]) hlp)))
    have rp : r ≠ p := fun z => by
      obtain ⟨xs, r1, r2⟩ := hrow
      obtain ⟨a, c, q1, _⟩ := pl8.same s9
      rw [z, q1] at r1
      cases r1
      generalize rowM (Gf.fullestM b n k).rows k = evs at r2
      cases r2 with
      | cons h _ =>
        obtain ⟨t, e, _⟩ := h
        cases e
    generalize upd H10 lp (.lst [.str "behind", .str "first", .str "best", .str "next"]) = Hb at s11 glp hrow11
    have pl := pl8.same s11
    have tb := t8.ext s11
    have bb := b8.trans (SameP.of s11)
    have hbb := hb8.keep (same_ext s11)
    have gnb := s11 _ _ gn
    clear t8 b8 pl8 hb8 gn s9 s10 s11 hrow
    obtain ⟨yb, hyb⟩ := pl.lst
    refine for_list (K := K) (a := lp) (xs := [.str "behind", .str "first", .str "best", .str "next"]) (fun j σ H' => (∃ x9 x10, σ = [some (.ref s), some (.int (i : Int)), some (.ref p), some (.ref ba), some (.int n), some (.int (k : Int)), some (.ref nl), some (.ref r), some (.int (Gf.fullestM b n k).i), x9, x10]) ∧ SameP p (noT Hb) H' ∧ PoolAt H' p ∧ LamX.Tabs T0 H') ?_ ?_ ?_ ?_
    · exact ⟨⟨_, _, rfl⟩, fun c o hc _ => noT_ext c o hc fun ps e => noT_nt c ps (by rw [hc, e]), pl, tb⟩
    · rintro j σ H' _ ⟨_, sp, _⟩
      exact SqL.of (sp _ _ (noT_some glp fun ps z => by cases z) lpp)
    · rintro j x σ H' hx ⟨⟨x9', x10', rfl⟩, sp, pl', t'⟩
      obtain ⟨place, rfl, hpr⟩ : ∃ place : Str, x = .str place ∧ place ∈ (["behind", "first", "best", "next"] : List Str) := by
        have hm := List.mem_of_getElem? hx
        simp only [List.mem_cons, List.mem_nil_iff, or_false] at hm
        rcases hm with e | e | e | e <;> exact ⟨_, e, by simp⟩
      have hbo : BookAt K (noT Hb) ba b := by
        obtain ⟨dxb, tbk, h1, h2, h3⟩ := hbb
        exact ⟨dxb, tbk, noT_some h1 fun ps z => (by cases z), sqT_noT h2, h3⟩
      have hpn : noT Hb p = some (.lst yb) := noT_some hyb fun ps z => by cases z
      have hb' : BookAt K H' ba b := hbo.P hpn sp
      have hrow' : RowEV K H' r (rowM (Gf.fullestM b n k).rows k) := by
        obtain ⟨xs, r1, r2⟩ := hrow11.noT
        exact ⟨xs, sp _ _ r1 rp, paired_mono r2 fun v e z => by
          obtain ⟨t, y1, y2⟩ := z
          exact ⟨t, y1, sqT_P hpn sp y2⟩⟩
      have hnl' : H' nl = some (.lst (nmsV k)) := sp _ _ (noT_some gnb fun ps z => by cases z) nlp
      have hbk := bk_ok hb' ⟨hb1, hb2, hb3'⟩
      obtain ⟨st', hp1, hp2, hp3⟩ := Gf.row_plays hbk (by omega : 0 ≤ n) k
      have fb := Gf.full_bounds hbk n1 k
      have rok := row_ok (k := k) (by omega) fb.1 fun g hg => ⟨(fb.2 g hg).1, fun m hm => ⟨((fb.2 g hg).2 m hm).1, by have := ((fb.2 g hg).2 m hm).2; omega⟩⟩
      have hplay := play_row fb.1 hp1
      have dok : DOk ⟨b, n, place, 0, []⟩ := ⟨⟨fun r hr => absurd hr (by simp [allR]), fun y => Nat.zero_le _⟩, fun f hf => absurd hf (by simp), fun f hf => absurd hf (by simp), by show (0 : Int) ≤ n; omega, ⟨by show (0 : Int) ≤ 0; decide, by show (0 : Int) ≤ 1000000; decide⟩, ⟨n1, by show n ≤ 300; omega⟩, ⟨hb1, hb2, hb3'⟩, hpr, .nil, by show 0 ≤ 8; decide⟩
      refine ⟨_, rfl, _, rfl, _, rfl, rfl, rfl, fun x dx nx nd ne => ?_⟩
      have e1 : Same H' (upd (upd H' dx (.own x)) x (.ins 1105 dx [])) := fun c o e => by rw [upd_ne (ne_of_none e nx), upd_ne (ne_of_none e nd)]; exact e
      refine ⟨x, dx, ba, b, place, n, rfl, upd_same, hb'.keep (same_ext e1), ⟨hb1, hb2, hb3'⟩, hpr, ⟨n1, by omega⟩, fun H1 bk' fd k1' hfd hx1 hbk1 hf1 => ⟨rfl, ?_⟩⟩
      have s1 : Same H' H1 := fun c o hc => k1' c o (e1 c o hc) (ne_of_none hc nx)
      refine ⟨_, rfl, x, r, ⟨dx, fd, bk', []⟩, ⟨b, n, place, 0, []⟩, _, st', rfl, ⟨hx1, hbk1, hf1, .nil, .nil, .nil⟩, rfl, dok, hrow'.keep (same_ext s1), rok.2, rok.1, hplay, t'.ext s1, fun H2 d2 A2 S2 D2 ok2 nm2 eb2 en2 er2 ea2 => ?_⟩
      have l2 : S2.fs.length = k := by rw [← abs_len, ea2]; exact hp2
      have nms2 : (S2.fs.map fun f => V.str f.nm) = nmsV k := by
        have h : S2.fs.map (·.nm) = (List.range S2.fs.length).map nm := nm2
        have h2 := congrArg (List.map V.str) h
        rw [List.map_map, List.map_map, l2] at h2
        exact h2
      have sp2 : SameP p (noT Hb) H2 := fun c o hc hne => by
        have no : ∀ ps, o ≠ .tbl ps := fun ps e => noT_nt c ps (by rw [hc, e])
        exact D2.ext c o (noT_some (s1 _ _ (sp c o hc hne)) no) no
      have pl2 : PoolAt H2 p := by
        obtain ⟨u, v, q1, q2⟩ := pl'
        exact ⟨u, v, D2.ext p _ (noT_some (s1 _ _ q1) fun ps z => by cases z) (fun ps z => by cases z), q2⟩
      clear sp pl' t' hb' hrow' hnl' e1 s1 k1' hx1 hbk1 hf1 nx nd ne hfd
      -- the names
      refine ⟨_, rfl, d2, A2.dx, _, rfl, D2.disk.ins, rfl, d2, A2, S2, rfl, D2.disk, fun l hl => ?_⟩
      rw [nms2]
      have s3 : Same H2 (upd H2 l (.lst (nmsV k))) := same_upd hl
      have gl3 : upd H2 l (.lst (nmsV k)) l = some (.lst (nmsV k)) := upd_same
      have D3 := D2.same s3
      have sp3 := sp2.trans (SameP.of s3)
      have pl3 := pl2.same s3
      generalize upd H2 l (.lst (nmsV k)) = H3 at gl3 D3 sp3 pl3
      refine ⟨_, rfl, nmsD k, nmsD k, dp_nms gl3, dp_nms (sp3 _ _ (noT_some gnb fun ps z => by cases z) nlp), nms_shaped k6, nms_shaped k6, _, rfl, ?_⟩
      rw [nms_eq k6]
      refine iteF ?_
      -- the idle blocks
      refine ⟨_, rfl, d2, A2, S2, rfl, D3.disk, ok2.nd, ok2.len, fun H4 s4 => ⟨_, rfl, rfl, _, rfl, ifNN (by rw [ea2, hp3]) ?_⟩⟩
      have sp4 := sp3.trans (SameP.of s4)
      have pl4 := pl3.same s4
      have t4 := D3.tab.ext s4
      have hb4 : BookAt K H4 ba b := hbo.P hpn sp4
      -- any growths
      refine ⟨_, rfl, _, rfl, _, rfl, _, rfl, rfl, rfl, fun y dy ny nyd nye => ?_⟩
      have e5 : Same H4 (upd (upd H4 dy (.own y)) y (.ins 1105 dy [])) := fun c o e => by rw [upd_ne (ne_of_none e ny), upd_ne (ne_of_none e nyd)]; exact e
      refine ⟨y, dy, ba, b, place, n, rfl, upd_same, hb4.keep (same_ext e5), ⟨hb1, hb2, hb3'⟩, hpr, ⟨n1, by omega⟩, fun H5 bk5 fd5 k5 hfd5 hx5 hbk5 hf5 => ⟨rfl, ?_⟩⟩
      have s5 : Same H4 H5 := fun c o hc => k5 c o (e5 c o hc) (ne_of_none hc ny)
      have hfd4 : H4 fd5 = none := e5.free hfd5
      have D5 : DiskF K (noT H4) H5 y ⟨dy, fd5, bk5, []⟩ ⟨b, n, place, 0, []⟩ := ⟨⟨hx5, hbk5, hf5, .nil, .nil, .nil⟩, fun c hc => by
        have hc' : c = y ∨ c = fd5 := by simpa [foot] using hc
        rcases hc' with z | z
        · rw [z]; exact noT_none ny
        · rw [z]; exact noT_none hfd4, noT_ext.trans (same_ext s5), t4.ext s5, noT_nt⟩
      obtain ⟨u4, v4, q41, q42⟩ := id pl4
      refine ⟨_, rfl, _, rfl, noT H4, p, y, nl, _, ⟨b, n, place, 0, []⟩, k, rfl, D5, rfl, dok, k6, ⟨u4, v4, noT_some q41 (fun ps z => by cases z), q42⟩, noT_some (sp4 _ _ (noT_some gnb fun ps z => by cases z) nlp) (fun ps z => by cases z), nlp, fun H6 sp6 pl6' t6' => ⟨true, rfl, iteF ?_⟩⟩
      refine ⟨⟨_, _, rfl⟩, fun c o hc hne => ?_, pl6', t6'⟩
      exact sp6 c o (noT_some (sp4 c o hc hne) fun ps e => noT_nt c ps (by rw [hc, e])) hne
    · rintro σ H' ⟨⟨x9', x10', rfl⟩, sp, _, t'⟩
      refine ⟨⟨_, _, _, _, _, _, _, _, _, _, rfl⟩, fun c o hc ho => ?_, t'⟩
      have hne : c ≠ p := fun z => by
        rw [z, pf] at hc
        cases hc
      exact sp c o (noT_some (bb c o hc hne) ho) hne
  · rintro σ H0 ⟨⟨x1, x2, x3, x4, x5, x6, x7, x8, x9, x10, rfl⟩, e0, t0⟩
    exact q H0
end
end Gt
/-! ## GfH -/
set_option Elab.async false
set_option linter.all false
set_option maxRecDepth 100000
set_option maxHeartbeats 0
/-! The head: the facts, looked at by places. -/
namespace Gh
open PySem PySem.Spec PyProof.Rows L2 Wm Gt
abbrev R : PySem.W.OpenRow := PySem.W.OpenLaw.row PySem.Challenge.rw_grownfiles_k65_whole_idle_rows_on_disks
/-- one def: its address, name, qualified name, text, keyword-only defaults -/
structure DefA where
  adr : Addr
  name : Str
  qual : Str
  st : Stmt
  kwd : List (Str × V)
def fnA (K : PySem.W.Frag) (a : Addr) : He.FnW := match K.lookup a with
  | some ⟨_, _, .func fd, _⟩ => some (fd.name, fd.qualname, fd.params, fd.body, fd.scope, fd.globals, fd.closure, fd.builtins)
  | _ => none
def DefA.val (d : DefA) : He.FnW := some (d.name, d.qual, defArgs d.st, .stmts (defBody d.st), defScope d.st, mainGlobals, [], builtinsNs)
def DefA.ok (K : PySem.W.Frag) (d : DefA) : Bool := PySem.W.keepIn K (.ref d.adr) && (match K.lookup d.adr with
  | some ⟨_, _, .func fd, _⟩ => PySem.W.codeIn K fd.code d.qual && (He.dflB K fd.defaults [] && He.kwdB K fd.kwdefaults d.kwd)
  | _ => false)
theorem DefA.funD {K : PySem.W.Frag} {d : DefA} (e : fnA K d.adr = d.val) (c : d.ok K = true) : ∃ fd, FunD K d.name d.qual (defArgs d.st) (defBody d.st) (defScope d.st) [] d.kwd d.adr fd := by
  obtain ⟨kp, c2⟩ := He.ba c
  unfold fnA at e
  cases q : K.lookup d.adr with
  | none => rw [q] at c2; cases c2
  | some o =>
    obtain ⟨oc, od, dt, osl⟩ := o
    rw [q] at c2 e
    cases dt with
    | func fd =>
      obtain ⟨n1, n2, n3, n4, n5, n6, n7, n8, n9, n10, n11, n12, n13, n14, n15⟩ := fd
      have e2 : (some (n1, n2, n3, n4, n5, n6, n7, n15) : He.FnW) = some (d.name, d.qual, defArgs d.st, .stmts (defBody d.st), defScope d.st, mainGlobals, [], builtinsNs) := e
      simp only [Option.some.injEq, Prod.mk.injEq] at e2
      obtain ⟨h1, h2, h3, h4, h5, h6, h7, h8⟩ := e2
      subst h1 h2 h3 h4 h5 h6 h7 h8
      have c3 : (PySem.W.codeIn K n13 d.qual && (He.dflB K n8 [] && He.kwdB K n9 d.kwd)) = true := c2
      obtain ⟨k1, k2⟩ := He.ba c3
      obtain ⟨k3, k4⟩ := He.ba k2
      exact ⟨_, ⟨oc, od, n8, n9, n10, n11, n12, n13, n14, osl, rfl, q, k1, He.dflB_ok k3, He.kwdB_ok k4⟩, kp⟩
    | _ => cases c2
def codeB (K : PySem.W.Frag) (f c : Addr) : Bool := match K.lookup f with
  | some ⟨_, _, .func fd, _⟩ => decide (fd.code = .ref c)
  | _ => false
theorem codeB_ok {K : PySem.W.Frag} {f c : Addr} {x q : Str} {pa : Arguments} {b : List Stmt} {sc : Scope} {kw : List (Str × V)} {fd : FuncData} (F : FunD K x q pa b sc [] kw f fd) (h : codeB K f c = true) : fd.code = .ref c := by
  obtain ⟨oc, od, dV, kV, doc, pm, an, cdv, ct, osl, rfl, lk, _⟩ := F.ex
  unfold codeB at h
  rw [lk] at h
  exact of_decide_eq_true h
def clsB (K : PySem.W.Frag) (C : Addr) : Bool := PySem.W.plainGet K C Str.empty && (PySem.W.hasDictIn K C && (PySem.W.plainOver K C && He.eqO (PySem.W.findIn K (.ref C) "__setattr__") (some (some (.builtin "object.__setattr__")))))
theorem clsB_ok {K : PySem.W.Frag} {C : Addr} (c : clsB K C = true) : Cls K C := by
  obtain ⟨c1, c⟩ := He.ba c
  obtain ⟨c2, c⟩ := He.ba c
  obtain ⟨c3, c4⟩ := He.ba c
  exact ⟨c1, c2, c3, He.eqO_ok c4⟩
def methB (K : PySem.W.Frag) (C : Addr) (m : Str) (f : Addr) : Bool := He.eqO (PySem.W.findIn K (.ref C) m) (some (some (.ref f))) && (PySem.W.isFn K (.ref f) && PySem.W.keepIn K (.ref f))
theorem methB_ok {K : PySem.W.Frag} {C f : Addr} {m : Str} (c : methB K C m f = true) : Meth K C m f := by
  obtain ⟨c1, c⟩ := He.ba c
  obtain ⟨c2, c3⟩ := He.ba c
  exact ⟨He.eqO_ok c1, c2, c3⟩
def mkB (K : PySem.W.Frag) (C f : Addr) : Bool := PySem.W.makesIn K C && (He.eqO (PySem.W.findIn K (.ref C) "__init__") (some (some (.ref f))) && (PySem.W.isFn K (.ref f) && PySem.W.keepIn K (.ref C)))
theorem mkB_ok {K : PySem.W.Frag} {C f : Addr} (c : mkB K C f = true) : Mk K C f := by
  obtain ⟨c1, c⟩ := He.ba c
  obtain ⟨c2, c⟩ := He.ba c
  obtain ⟨c3, c4⟩ := He.ba c
  exact ⟨c1, He.eqO_ok c2, c3, c4⟩
def recB (K : PySem.W.Frag) (p g : Addr) : Bool := match PySem.W.recIn K p "property" with
  | some (.ref a :: _) => decide (a = g)
  | _ => false
def propB (K : PySem.W.Frag) (C : Addr) (f : Str) (p g : Addr) : Bool := He.eqO (PySem.W.findIn K (.ref C) f) (some (some (.ref p))) && (He.eqO (PySem.W.specialIn K (.ref p) "__get__") (some (some (.builtin "property.__get__"))) && (decide (PySem.W.takesIn K (.ref p) = some true) && recB K p g))
theorem propB_ok {K : PySem.W.Frag} {C p g : Addr} {f : Str} (c : propB K C f p g = true) : PropOf K C f p g := by
  obtain ⟨c1, c⟩ := He.ba c
  obtain ⟨c2, c⟩ := He.ba c
  obtain ⟨c3, c4⟩ := He.ba c
  refine ⟨He.eqO_ok c1, He.eqO_ok c2, of_decide_eq_true c3, ?_⟩
  unfold recB at c4
  split at c4
  · rename_i a r q
    rw [of_decide_eq_true c4] at q
    exact ⟨r, q⟩
  · cases c4
def spcB (K : PySem.W.Frag) (C : Addr) (m : Str) (f : Addr) : Bool := He.eqO (PySem.W.findIn K (.ref C) m) (some (some (.ref f))) && (PySem.W.isFn K (.ref f) && PySem.W.fnIn K f)
theorem spcB_ok {K : PySem.W.Frag} {C f : Addr} {m : Str} (c : spcB K C m f = true) : PySem.W.findIn K (.ref C) m = some (some (.ref f)) ∧ PySem.W.isFn K (.ref f) = true ∧ PySem.W.fnIn K f = true := by
  obtain ⟨c1, c⟩ := He.ba c
  obtain ⟨c2, c3⟩ := He.ba c
  exact ⟨He.eqO_ok c1, c2, c3⟩
def insB (K : PySem.W.Frag) (C : Addr) : Bool := clsB K C && (He.eqO (PySem.W.findIn K (.ref C) "__class__") (some (some (.builtin "object.__class__"))) && (He.eqO (PySem.W.specialIn K (.builtin "object.__class__") "__get__") (some (some (.builtin "getset_descriptor.__get__"))) &&
  (decide (PySem.W.takesIn K (.builtin "object.__class__") = some true) && (decide (PySem.W.mroIn K C (.type "object") = some true) && decide (PySem.W.kitOne K (.ref C) (.ref C) = some true)))))
theorem insB_ok {K : PySem.W.Frag} {C : Addr} (c : insB K C = true) : C8.InsC K C := by
  obtain ⟨c1, c⟩ := He.ba c
  obtain ⟨c2, c⟩ := He.ba c
  obtain ⟨c3, c⟩ := He.ba c
  obtain ⟨c4, c⟩ := He.ba c
  obtain ⟨c5, c6⟩ := He.ba c
  exact ⟨clsB_ok c1, He.eqO_ok c2, He.eqO_ok c3, of_decide_eq_true c4, of_decide_eq_true c5, of_decide_eq_true c6⟩
def oexB (K : PySem.W.Frag) (C : Addr) : Bool := (match K.lookup C with
  | some ⟨.type t, _, .cls cd, sl⟩ => decide (t = "type") && ((match cd.mro with
    | .ref a :: bm => decide (a = C) && PySem.HandSPX.refsVE bm
    | _ => false) && (cd.hasDict && (!cd.hasDel && (match sl.toList with
    | [_, _, _, _, some (.builtin n), _] => decide (n = "ValueError.__new__")
    | _ => false))))
  | _ => false) && (He.eqO (PySem.W.findIn K (.ref C) "__setattr__") (some (some (.builtin "object.__setattr__"))) && (decide (PySem.W.subIn K (.ref C) (.type "BaseException") = some true) && (decide (PySem.W.typeIn K (.ref C) = some (.type "type")) && PySem.W.keepIn K (.ref C))))
theorem oexB_ok {K : PySem.W.Frag} {C : Addr} (c : oexB K C = true) : OexC K C := by
  obtain ⟨c1, c⟩ := He.ba c
  obtain ⟨c2, c⟩ := He.ba c
  obtain ⟨c3, c⟩ := He.ba c
  obtain ⟨c4, c5⟩ := He.ba c
  refine ⟨?_, He.eqO_ok c2, of_decide_eq_true c3, of_decide_eq_true c4, c5⟩
  split at c1
  · rename_i t dd cd sl q
    obtain ⟨d1, d⟩ := He.ba c1
    obtain ⟨d2, d⟩ := He.ba d
    obtain ⟨d3, d⟩ := He.ba d
    obtain ⟨d4, d5⟩ := He.ba d
    obtain ⟨nm, bs, mro, nsx, qn, hd, sn, sub, ab, col, del⟩ := cd
    have e1 : t = "type" := of_decide_eq_true d1
    subst e1
    dsimp only at d2 d3 d4
    clear d c1 c
    cases mro with
    | nil => cases d2
    | cons a bm =>
      cases a with
      | ref a =>
        obtain ⟨e2, e3⟩ := He.ba d2
        have e4 : a = C := of_decide_eq_true e2
        subst e4
        have e5 : hd = true := d3
        subst e5
        have e6 : del = false := by simpa using d4
        subst e6
        split at d5
        · rename_i k0 k1 k2 k3 n k5 hs
          have e7 : n = "ValueError.__new__" := of_decide_eq_true d5
          subst e7
          have hsl : sl = #[k0, k1, k2, k3, some (.builtin "ValueError.__new__"), k5] := by
            obtain ⟨l⟩ := sl
            simp only at hs
            rw [hs]
          subst hsl
          exact ⟨nm, qn, nsx, bs, bm, sn, sub, ab, col, dd, k0, k1, k2, k3, k5, q, e3⟩
        · cases d5
      | _ => cases d2
  · cases c1
def intB (K : PySem.W.Frag) (x : Str) (i : Int) : Bool := (He.Fa.int x i).ok K
def strB (K : PySem.W.Frag) (x z : Str) : Bool := (He.Fa.str x z).ok K
def tupAt (K : PySem.W.Frag) (a : Addr) (vs : List V) : Bool := match K.lookup a with
  | some ⟨.type c, _, .seq its _, _⟩ => decide (c = "tuple") && (decide (its.size ≤ sizeLine) && He.relAll vs its.toList)
  | _ => false
theorem tupAt_ok {K : PySem.W.Frag} {a : Addr} {vs : List V} (h : tupAt K a vs = true) (H : Hp) : SqT K H a vs := by
  unfold tupAt at h
  split at h
  · rename_i c od its n osl q
    obtain ⟨h1, h2⟩ := He.ba h
    obtain ⟨h3, h4⟩ := He.ba h2
    exact .inr ⟨_, its, n, q, congrArg Value.type (of_decide_eq_true h1), rfl, of_decide_eq_true h3, He.relAll_ok h4⟩
  · cases h
def ads0 : List Addr := [3, 30, 31, 256, 257, 259, 260, 344, 345, 351, 352, 356, 357, 363, 364, 370, 371, 375, 376, 382]
def ads1 : List Addr := [383, 389, 390, 396, 397, 403, 404, 408, 409, 415, 416, 422, 423, 429, 430, 443, 444, 453, 459, 460]
def ads2 : List Addr := [496, 497, 507, 547, 548, 554, 555, 561, 562, 575, 576, 592, 593, 612, 618, 619, 620, 626, 627, 633]
def ads3 : List Addr := [634, 640, 641, 645, 646, 652, 653, 654, 660, 661, 667, 668, 674, 675, 681, 682, 688, 689, 695, 696]
def ads4 : List Addr := [702, 703, 707, 708, 721, 722, 724, 725, 742, 743, 759, 760, 766, 767, 773, 774, 780, 781, 820, 821]
def ads5 : List Addr := [837, 838, 848, 849, 855, 856, 876, 877, 883, 884, 885, 891, 892, 905, 906, 955, 956, 966, 967, 975]
def ads6 : List Addr := [981, 982, 995, 996, 1002, 1003, 1007, 1008, 1021, 1022, 1035, 1036, 1042, 1043, 1049, 1050, 1056, 1057, 1068, 1069]
def ads7 : List Addr := [1101, 1102, 1104, 1105, 1115, 1116, 1122, 1123, 1129, 1130, 1136, 1137, 1143, 1144, 1150, 1151, 1157, 1158, 1169, 1170]
def ads8 : List Addr := [1176, 1177, 1183, 1184]
def ads : List Addr := ads0 ++ (ads1 ++ (ads2 ++ (ads3 ++ (ads4 ++ (ads5 ++ (ads6 ++ (ads7 ++ (ads8))))))))
def d_is_integer : DefA := ⟨345, "is_integer", "is_integer", s_is_integer, []⟩
def d_check_integer : DefA := ⟨352, "check_integer", "check_integer", s_check_integer, []⟩
def d_is_name : DefA := ⟨357, "is_name", "is_name", s_is_name, []⟩
def d_check_blocks : DefA := ⟨364, "check_blocks", "check_blocks", s_check_blocks, []⟩
def d_whole_choices : DefA := ⟨371, "whole_choices", "whole_choices", s_whole_choices, []⟩
def d_layers : DefA := ⟨376, "layers", "layers", s_layers, []⟩
def d_growths_at : DefA := ⟨383, "growths_at", "growths_at", s_growths_at, []⟩
def d_short_choices : DefA := ⟨390, "short_choices", "short_choices", s_short_choices, []⟩
def d_fullest : DefA := ⟨397, "fullest", "fullest", s_fullest, []⟩
def d_most_idle_on : DefA := ⟨404, "most_idle_on", "most_idle_on", s_most_idle_on, []⟩
def d_row_of : DefA := ⟨409, "row_of", "row_of", s_row_of, []⟩
def d_idle_row_on : DefA := ⟨416, "idle_row_on", "idle_row_on", s_idle_row_on, []⟩
def d_is_share : DefA := ⟨423, "is_share", "is_share", s_is_share, []⟩
def d_part_of : DefA := ⟨430, "part_of", "part_of", s_part_of, []⟩
def d_check_parts : DefA := ⟨444, "check_parts", "check_parts", s_check_parts, []⟩
def d_is_event : DefA := ⟨619, "is_event", "is_event", s_is_event, []⟩
def d_is_enough : DefA := ⟨627, "is_enough", "is_enough", s_is_enough, []⟩
def d_first_enough : DefA := ⟨634, "first_enough", "first_enough", s_first_enough, []⟩
def d_best_enough : DefA := ⟨641, "best_enough", "best_enough", s_best_enough, []⟩
def d_place_by_rule : DefA := ⟨646, "place_by_rule", "place_by_rule", s_place_by_rule, []⟩
def d_by_short_runs : DefA := ⟨653, "by_short_runs", "by_short_runs", s_by_short_runs, []⟩
def d_placed : DefA := ⟨661, "placed", "placed", s_placed, [("short", .bl true), ("need", .int 1)]⟩
def d_is_run : DefA := ⟨668, "is_run", "is_run", s_is_run, []⟩
def d_end_of : DefA := ⟨675, "end_of", "end_of", s_end_of, []⟩
def d_is_before : DefA := ⟨682, "is_before", "is_before", s_is_before, []⟩
def d_joined : DefA := ⟨689, "joined", "joined", s_joined, []⟩
def d_shared : DefA := ⟨696, "shared", "shared", s_shared, []⟩
def d_others : DefA := ⟨703, "others", "others", s_others, []⟩
def d_runs_of : DefA := ⟨708, "runs_of", "runs_of", s_runs_of, []⟩
def d_pairs_of : DefA := ⟨849, "pairs_of", "pairs_of", s_pairs_of, []⟩
def d_room_of : DefA := ⟨856, "room_of", "room_of", s_room_of, []⟩
def d_check_disk : DefA := ⟨967, "check_disk", "check_disk", s_check_disk, []⟩
def d_check_row : DefA := ⟨1116, "check_row", "check_row", s_check_row, []⟩
def d_steps_on : DefA := ⟨1123, "steps_on", "steps_on", s_steps_on, []⟩
def d_played : DefA := ⟨1130, "played", "played", s_played, []⟩
def d_law_hand : DefA := ⟨1137, "_law_hand", "_law_hand", s_law_hand, []⟩
def d_law_draw : DefA := ⟨1144, "_law_draw", "_law_draw", s_law_draw, []⟩
def d_law_parts : DefA := ⟨1151, "_law_parts", "_law_parts", s_law_parts, []⟩
def d_law_book : DefA := ⟨1158, "_law_book", "_law_book", s_law_book, []⟩
def d_law_idle : DefA := ⟨1170, "_law_idle", "_law_idle", s_law_idle, []⟩
def d_law_any : DefA := ⟨1177, "_law_any", "_law_any", s_law_any, []⟩
def d_law : DefA := ⟨1184, "law", "law", s_law, []⟩
def d_Book_init : DefA := ⟨460, "__init__", "Book.__init__", s_Book_init, [("share", .ref 452)]⟩
def d_Book_first : DefA := ⟨497, "first", "Book.first", s_Book_first, []⟩
def d_Book_step : DefA := ⟨548, "step", "Book.step", s_Book_step, []⟩
def d_Book_given : DefA := ⟨555, "given", "Book.given", s_Book_given, []⟩
def d_Book_call : DefA := ⟨562, "__call__", "Book.__call__", s_Book_call, []⟩
def d_Book_twin : DefA := ⟨576, "twin", "Book.twin", s_Book_twin, []⟩
def d_Pairs_init : DefA := ⟨722, "__init__", "Pairs.__init__", s_Pairs_init, []⟩
def d_Room_init : DefA := ⟨743, "__init__", "Room.__init__", s_Room_init, []⟩
def d_Room_runs : DefA := ⟨760, "runs", "Room.runs", s_Room_runs, []⟩
def d_Room_runs_from : DefA := ⟨767, "runs_from", "Room.runs_from", s_Room_runs_from, []⟩
def d_Room_amount : DefA := ⟨774, "amount", "Room.amount", s_Room_amount, []⟩
def d_Room_bool : DefA := ⟨781, "__bool__", "Room.__bool__", s_Room_bool, []⟩
def d_Room_sub : DefA := ⟨821, "__sub__", "Room.__sub__", s_Room_sub, []⟩
def d_File_init : DefA := ⟨877, "__init__", "File.__init__", s_File_init, []⟩
def d_File_idle : DefA := ⟨884, "idle", "File.idle", s_File_idle, []⟩
def d_File_pieces : DefA := ⟨892, "pieces", "File.pieces", s_File_pieces, []⟩
def d_File_put_behind : DefA := ⟨906, "put_behind", "File.put_behind", s_File_put_behind, []⟩
def d_Disk_init : DefA := ⟨982, "__init__", "Disk.__init__", s_Disk_init, [("rule", .str "first"), ("size", .non), ("short", .bl true), ("back", .bl false), ("late", .bl false)]⟩
def d_Disk_names : DefA := ⟨996, "names", "Disk.names", s_Disk_names, []⟩
def d_Disk_free : DefA := ⟨1003, "free", "Disk.free", s_Disk_free, []⟩
def d_Disk_twin : DefA := ⟨1008, "twin", "Disk.twin", s_Disk_twin, []⟩
def d_Disk_contains : DefA := ⟨1022, "__contains__", "Disk.__contains__", s_Disk_contains, []⟩
def d_Disk_getitem : DefA := ⟨1036, "__getitem__", "Disk.__getitem__", s_Disk_getitem, []⟩
def d_Disk_make : DefA := ⟨1043, "make", "Disk.make", s_Disk_make, []⟩
def d_Disk_open_file : DefA := ⟨1050, "open_file", "Disk.open_file", s_Disk_open_file, []⟩
def d_Disk_grow : DefA := ⟨1057, "grow", "Disk.grow", s_Disk_grow, []⟩
def d_Disk_written_behind : DefA := ⟨1069, "written_behind", "Disk.written_behind", s_Disk_written_behind, []⟩
def d_Disk_do : DefA := ⟨1102, "do", "Disk.do", s_Disk_do, []⟩
def d_Refused_init : DefA := ⟨257, "__init__", "Refused.__init__", s_Refused_init, []⟩
def fn0 : List DefA := [d_is_integer, d_check_integer, d_is_name, d_check_blocks, d_whole_choices, d_layers, d_growths_at, d_short_choices, d_fullest, d_most_idle_on, d_row_of, d_idle_row_on, d_is_share, d_part_of, d_check_parts, d_is_event, d_is_enough, d_first_enough, d_best_enough, d_place_by_rule]
def fn1 : List DefA := [d_by_short_runs, d_placed, d_is_run, d_end_of, d_is_before, d_joined, d_shared, d_others, d_runs_of, d_pairs_of, d_room_of, d_check_disk, d_check_row, d_steps_on, d_played, d_law_hand, d_law_draw, d_law_parts, d_law_book, d_law_idle]
def fn2 : List DefA := [d_law_any, d_law, d_Book_init, d_Book_first, d_Book_step, d_Book_given, d_Book_call, d_Book_twin, d_Pairs_init, d_Room_init, d_Room_runs, d_Room_runs_from, d_Room_amount, d_Room_bool, d_Room_sub, d_File_init, d_File_idle, d_File_pieces, d_File_put_behind, d_Disk_init]
def fn3 : List DefA := [d_Disk_names, d_Disk_free, d_Disk_twin, d_Disk_contains, d_Disk_getitem, d_Disk_make, d_Disk_open_file, d_Disk_grow, d_Disk_written_behind, d_Disk_do, d_Refused_init]
def fn : List DefA := fn0 ++ (fn1 ++ (fn2 ++ (fn3)))
/-- all that is looked at, by its number -/
def ex0 (K : PySem.W.Frag) : List Bool := [
  He.eqO (PySem.W.nsIn K mainGlobals "is_integer") (some (some (.ref 345))),
  He.eqO (PySem.W.nsIn K mainGlobals "check_integer") (some (some (.ref 352))),
  He.eqO (PySem.W.nsIn K mainGlobals "is_name") (some (some (.ref 357))),
  He.eqO (PySem.W.nsIn K mainGlobals "check_blocks") (some (some (.ref 364))),
  He.eqO (PySem.W.nsIn K mainGlobals "whole_choices") (some (some (.ref 371))),
  He.eqO (PySem.W.nsIn K mainGlobals "layers") (some (some (.ref 376))),
  He.eqO (PySem.W.nsIn K mainGlobals "growths_at") (some (some (.ref 383))),
  He.eqO (PySem.W.nsIn K mainGlobals "short_choices") (some (some (.ref 390))),
  He.eqO (PySem.W.nsIn K mainGlobals "fullest") (some (some (.ref 397))),
  He.eqO (PySem.W.nsIn K mainGlobals "most_idle_on") (some (some (.ref 404))),
  He.eqO (PySem.W.nsIn K mainGlobals "row_of") (some (some (.ref 409))),
  He.eqO (PySem.W.nsIn K mainGlobals "idle_row_on") (some (some (.ref 416))),
  He.eqO (PySem.W.nsIn K mainGlobals "is_share") (some (some (.ref 423))),
  He.eqO (PySem.W.nsIn K mainGlobals "part_of") (some (some (.ref 430))),
  He.eqO (PySem.W.nsIn K mainGlobals "check_parts") (some (some (.ref 444))),
  He.eqO (PySem.W.nsIn K mainGlobals "is_event") (some (some (.ref 619))),
  He.eqO (PySem.W.nsIn K mainGlobals "is_enough") (some (some (.ref 627))),
  He.eqO (PySem.W.nsIn K mainGlobals "first_enough") (some (some (.ref 634))),
  He.eqO (PySem.W.nsIn K mainGlobals "best_enough") (some (some (.ref 641))),
  He.eqO (PySem.W.nsIn K mainGlobals "place_by_rule") (some (some (.ref 646)))]
def ex1 (K : PySem.W.Frag) : List Bool := [
  He.eqO (PySem.W.nsIn K mainGlobals "by_short_runs") (some (some (.ref 653))),
  He.eqO (PySem.W.nsIn K mainGlobals "placed") (some (some (.ref 661))),
  He.eqO (PySem.W.nsIn K mainGlobals "is_run") (some (some (.ref 668))),
  He.eqO (PySem.W.nsIn K mainGlobals "end_of") (some (some (.ref 675))),
  He.eqO (PySem.W.nsIn K mainGlobals "is_before") (some (some (.ref 682))),
  He.eqO (PySem.W.nsIn K mainGlobals "joined") (some (some (.ref 689))),
  He.eqO (PySem.W.nsIn K mainGlobals "shared") (some (some (.ref 696))),
  He.eqO (PySem.W.nsIn K mainGlobals "others") (some (some (.ref 703))),
  He.eqO (PySem.W.nsIn K mainGlobals "runs_of") (some (some (.ref 708))),
  He.eqO (PySem.W.nsIn K mainGlobals "pairs_of") (some (some (.ref 849))),
  He.eqO (PySem.W.nsIn K mainGlobals "room_of") (some (some (.ref 856))),
  He.eqO (PySem.W.nsIn K mainGlobals "check_disk") (some (some (.ref 967))),
  He.eqO (PySem.W.nsIn K mainGlobals "check_row") (some (some (.ref 1116))),
  He.eqO (PySem.W.nsIn K mainGlobals "steps_on") (some (some (.ref 1123))),
  He.eqO (PySem.W.nsIn K mainGlobals "played") (some (some (.ref 1130))),
  He.eqO (PySem.W.nsIn K mainGlobals "_law_hand") (some (some (.ref 1137))),
  He.eqO (PySem.W.nsIn K mainGlobals "_law_draw") (some (some (.ref 1144))),
  He.eqO (PySem.W.nsIn K mainGlobals "_law_parts") (some (some (.ref 1151))),
  He.eqO (PySem.W.nsIn K mainGlobals "_law_book") (some (some (.ref 1158))),
  He.eqO (PySem.W.nsIn K mainGlobals "_law_idle") (some (some (.ref 1170)))]
def ex2 (K : PySem.W.Frag) : List Bool := [
  He.eqO (PySem.W.nsIn K mainGlobals "_law_any") (some (some (.ref 1177))),
  He.eqO (PySem.W.nsIn K mainGlobals "law") (some (some (.ref 1184))),
  He.eqO (PySem.W.nsIn K mainGlobals "Book") (some (some (.ref 593))),
  He.eqO (PySem.W.nsIn K mainGlobals "Pairs") (some (some (.ref 725))),
  He.eqO (PySem.W.nsIn K mainGlobals "Room") (some (some (.ref 838))),
  He.eqO (PySem.W.nsIn K mainGlobals "File") (some (some (.ref 956))),
  He.eqO (PySem.W.nsIn K mainGlobals "Disk") (some (some (.ref 1105))),
  He.eqO (PySem.W.nsIn K mainGlobals "Refused") (some (some (.ref 260))),
  He.eqO (PySem.W.nsIn K mainGlobals "GrowError") (some (some (.ref 31))),
  clsB K 593,
  He.eqO (PySem.W.findIn K (.ref 593) "own_first") (some none),
  He.eqO (PySem.W.findIn K (.ref 593) "own_roof") (some none),
  He.eqO (PySem.W.findIn K (.ref 593) "own_share") (some none),
  clsB K 725,
  He.eqO (PySem.W.findIn K (.ref 725) "pairs") (some none),
  clsB K 838,
  He.eqO (PySem.W.findIn K (.ref 838) "pairs") (some none),
  clsB K 956,
  He.eqO (PySem.W.findIn K (.ref 956) "disk") (some none),
  He.eqO (PySem.W.findIn K (.ref 956) "name") (some none)]
def ex3 (K : PySem.W.Frag) : List Bool := [
  He.eqO (PySem.W.findIn K (.ref 956) "size") (some none),
  He.eqO (PySem.W.findIn K (.ref 956) "hold") (some none),
  He.eqO (PySem.W.findIn K (.ref 956) "waiting") (some none),
  He.eqO (PySem.W.findIn K (.ref 956) "is_open") (some none),
  He.eqO (PySem.W.findIn K (.ref 956) "runs_held") (some none),
  clsB K 1105,
  He.eqO (PySem.W.findIn K (.ref 1105) "own_book") (some none),
  He.eqO (PySem.W.findIn K (.ref 1105) "rule") (some none),
  He.eqO (PySem.W.findIn K (.ref 1105) "size") (some none),
  He.eqO (PySem.W.findIn K (.ref 1105) "short") (some none),
  He.eqO (PySem.W.findIn K (.ref 1105) "back") (some none),
  He.eqO (PySem.W.findIn K (.ref 1105) "late") (some none),
  He.eqO (PySem.W.findIn K (.ref 1105) "after") (some none),
  He.eqO (PySem.W.findIn K (.ref 1105) "files") (some none),
  methB K 593 "step" 548,
  methB K 593 "given" 555,
  methB K 593 "twin" 576,
  methB K 838 "runs" 760,
  methB K 838 "runs_from" 767,
  methB K 838 "amount" 774]
def ex4 (K : PySem.W.Frag) : List Bool := [
  methB K 956 "pieces" 892,
  methB K 956 "put_behind" 906,
  methB K 1105 "names" 996,
  methB K 1105 "free" 1003,
  methB K 1105 "twin" 1008,
  methB K 1105 "make" 1043,
  methB K 1105 "open_file" 1050,
  methB K 1105 "grow" 1057,
  methB K 1105 "written_behind" 1069,
  methB K 1105 "do" 1102,
  mkB K 593 460,
  mkB K 725 722,
  mkB K 838 743,
  mkB K 956 877,
  mkB K 1105 982,
  propB K 593 "first" 507 497,
  propB K 956 "idle" 885 884,
  spcB K 593 "__call__" 562,
  spcB K 838 "__bool__" 781,
  spcB K 838 "__sub__" 821]
def ex5 (K : PySem.W.Frag) : List Bool := [
  spcB K 1105 "__contains__" 1022,
  spcB K 1105 "__getitem__" 1036,
  insB K 725,
  insB K 838,
  decide (PySem.W.kitOne K (.type "list") (.ref 725) = some false),
  PySem.W.selfFirst K 838,
  oexB K 260,
  xfB K 260,
  He.eqO (PySem.W.findIn K (.ref 260) "name") (some none),
  He.eqO (PySem.W.findIn K (.ref 260) "need") (some none),
  He.eqO (PySem.W.findIn K (.ref 260) "__init__") (some (some (.ref 257))),
  decide (PySem.W.typeIn K (.ref 257) = some (.type "function")),
  decide (PySem.W.exmOne K (.ref 260) (.ref 260) = some true),
  intB K "MOST" 10000000000000000000000000000000000000000,
  intB K "MOST_BLOCK" 100000000000000000000000000000000000000000000000000,
  intB K "MOST_GROWTH" 1000000000000000000000000000000,
  intB K "MOST_BLOCKS_refusals" 300,
  intB K "MOST_FILES" 8,
  intB K "MOST_SHARE" 100,
  intB K "MOST_RUNS" 1000]
def ex6 (K : PySem.W.Frag) : List Bool := [
  intB K "MOST_BLOCKS_disks" 1000000,
  intB K "MOST_EVENTS" 10000,
  strB K "SMALL" "abcdefghijklmnopqrstuvwxyz",
  He.eqO (PySem.W.nsIn K mainGlobals "RULES") (some (some (.ref 620))),
  tupAt K 620 [.str "behind", .str "first", .str "best", .str "next"],
  He.eqO (PySem.W.nsIn K mainGlobals "WORDS") (some (some (.ref 612))),
  tupAt K 612 [.str "make", .str "close", .str "open", .str "delete", .str "flush"],
  He.eqO (PySem.W.nsIn K mainGlobals "isinstance") (some none),
  He.eqO (PySem.W.nsIn K mainGlobals "int") (some none),
  He.eqO (PySem.W.nsIn K mainGlobals "bool") (some none),
  He.eqO (PySem.W.nsIn K mainGlobals "str") (some none),
  He.eqO (PySem.W.nsIn K mainGlobals "tuple") (some none),
  He.eqO (PySem.W.nsIn K mainGlobals "list") (some none),
  He.eqO (PySem.W.nsIn K mainGlobals "len") (some none),
  He.eqO (PySem.W.nsIn K mainGlobals "range") (some none),
  He.eqO (PySem.W.nsIn K mainGlobals "enumerate") (some none),
  He.eqO (PySem.W.nsIn K mainGlobals "min") (some none),
  He.eqO (PySem.W.nsIn K mainGlobals "max") (some none),
  He.eqO (PySem.W.nsIn K mainGlobals "all") (some none),
  He.eqO (PySem.W.nsIn K mainGlobals "sum") (some none)]
def ex7 (K : PySem.W.Frag) : List Bool := [
  He.eqO (PySem.W.nsIn K mainGlobals "sorted") (some none),
  codeB K 689 688]
def exs (K : PySem.W.Frag) : List (List Bool) := [ex0 K, ex1 K, ex2 K, ex3 K, ex4 K, ex5 K, ex6 K, ex7 K]
def allB : List Bool → Bool
  | [] => true
  | true :: r => allB r
  | false :: _ => false
def allBB : List (List Bool) → Bool
  | [] => true
  | a :: r => match allB a with
    | true => allBB r
    | false => false
theorem allB_at : ∀ {l : List Bool} {i : Nat} {b : Bool}, allB l = true → l[i]? = some b → b = true
  | [], _, _, _, e => by simp at e
  | true :: r, 0, b, _, e => by
    have e' : true = b := Option.some.inj e
    exact e'.symm
  | true :: r, i + 1, b, h, e => allB_at (l := r) h (by simpa using e)
  | false :: _, _, _, h, _ => by cases h
theorem allBB_at : ∀ {l : List (List Bool)} {i : Nat} {a : List Bool}, allBB l = true → l[i]? = some a → allB a = true
  | [], _, _, _, e => by simp at e
  | a :: r, i, b, h, e => by
    have h' : (match allB a with | true => allBB r | false => false) = true := h
    cases q : allB a with
    | false => rw [q] at h'; cases h'
    | true =>
      rw [q] at h'
      cases i with
      | zero =>
        have e' : a = b := Option.some.inj e
        rw [← e']
        exact q
      | succ i => exact allBB_at (l := r) h' (by simpa using e)
abbrev cJ : Addr × Addr := (688, 684)
abbrev Al : Type := Bool × (Bool × List He.FnW)
def tabB (g : Addr → Option Obj) (K : PySem.W.Frag) : Bool := PySem.W.codeHdIn K 688 684 && (match g 684 with
  | some o => He.emptyTab o
  | none => false)
def obsL (g : Addr → Option Obj) : Al := (allBB (exs (He.frT g ads)) && tabB g (He.frT g ads), fn.all fun d => d.ok (He.frT g ads), fn.map fun d => fnA (He.frT g ads) d.adr)
def valL : Al := (true, true, fn.map DefA.val)
structure Says (h : Heap) (K : PySem.W.Frag) : Prop where
  ex : allBB (exs K) = true
  fo : (fn.all fun d => d.ok K) = true
  fv : (fn.map fun d => fnA K d.adr) = fn.map DefA.val
  hd : PySem.W.codeHdIn K 688 684 = true
  out : K.lookup 684 = none
  empty : h.get? 684 = some { cls := .none, data := .fields #[] }
theorem says_of {h : Heap} (e : obsL h.get? = valL) : Says h (He.frT h.get? ads) := by
  have e1 : (allBB (exs (He.frT h.get? ads)) && tabB h.get? (He.frT h.get? ads)) = true := congrArg (fun z : Al => z.1) e
  have e2 : (fn.all fun d => d.ok (He.frT h.get? ads)) = true := congrArg (fun z : Al => z.2.1) e
  have e3 : (fn.map fun d => fnA (He.frT h.get? ads) d.adr) = fn.map DefA.val := congrArg (fun z : Al => z.2.2) e
  obtain ⟨a1, a2⟩ := He.ba e1
  obtain ⟨a3, a4⟩ := He.ba a2
  cases q : h.get? 684 with
  | none => rw [q] at a4; cases a4
  | some o =>
    rw [q] at a4
    have a5 : He.emptyTab o = true := a4
    exact ⟨a1, e2, e3, a3, He.frT_none q a5, by rw [q, He.emptyTab_eq a5]⟩
abbrev hk : PySem.W.Hook where
  α := Al
  obs := fun s => obsL s.heap.get?
  val := fun _ => valL
  says := fun _ h => ∃ K : PySem.W.Frag, K.In h ∧ Says h K
  of := fun _ _ e => ⟨_, He.frT_in, says_of e⟩
  keeps := fun _ _ _ ⟨K, hK, c⟩ k => ⟨K, PySem.W.Frag.In.keeps hK k, ⟨c.ex, c.fo, c.fv, c.hd, c.out, k _ _ c.empty⟩⟩
def ob (s : PySem.W.SharedT) : Al := obsL (HandSHeadRun.getT s)
theorem ob_eq (s : PySem.W.SharedT) : ob s = hk.obs s.abs := by
  have e : HandSHeadRun.getT s = s.abs.heap.get? := funext fun a => HandSHeadRun.getT_eq s a
  unfold ob
  rw [e] <;> rfl
theorem def_at {h : Heap} {K : PySem.W.Frag} (c : Says h K) (i : Nat) {d : DefA} (q : fn[i]? = some d) : ∃ fd, FunD K d.name d.qual (defArgs d.st) (defBody d.st) (defScope d.st) [] d.kwd d.adr fd := by
  have e2 : (fn.map fun d => fnA K d.adr)[i]? = (fn.map DefA.val)[i]? := by rw [c.fv]
  rw [List.getElem?_map, List.getElem?_map, q] at e2
  exact DefA.funD (Option.some.inj e2) (List.all_eq_true.mp c.fo d (List.mem_of_getElem? q))
theorem ex_at {h : Heap} {K : PySem.W.Frag} (c : Says h K) (i j : Nat) {a : List Bool} {b : Bool} (e1 : (exs K)[i]? = some a) (e2 : a[j]? = some b) : b = true := allB_at (allBB_at c.ex e1) e2
theorem txt {h : Heap} {K : PySem.W.Frag} {mg : Str → Option Value} (c : Says h K) (X : K.In h) (G : h.Ns mainGlobals mg) : Txt K mg where
  f_is_integer := def_at c 0 (d := d_is_integer) rfl
  f_check_integer := def_at c 1 (d := d_check_integer) rfl
  f_is_name := def_at c 2 (d := d_is_name) rfl
  f_check_blocks := def_at c 3 (d := d_check_blocks) rfl
  f_whole_choices := def_at c 4 (d := d_whole_choices) rfl
  f_layers := def_at c 5 (d := d_layers) rfl
  f_growths_at := def_at c 6 (d := d_growths_at) rfl
  f_short_choices := def_at c 7 (d := d_short_choices) rfl
  f_fullest := def_at c 8 (d := d_fullest) rfl
  f_most_idle_on := def_at c 9 (d := d_most_idle_on) rfl
  f_row_of := def_at c 10 (d := d_row_of) rfl
  f_idle_row_on := def_at c 11 (d := d_idle_row_on) rfl
  f_is_share := def_at c 12 (d := d_is_share) rfl
  f_part_of := def_at c 13 (d := d_part_of) rfl
  f_check_parts := def_at c 14 (d := d_check_parts) rfl
  f_is_event := def_at c 15 (d := d_is_event) rfl
  f_is_enough := def_at c 16 (d := d_is_enough) rfl
  f_first_enough := def_at c 17 (d := d_first_enough) rfl
  f_best_enough := def_at c 18 (d := d_best_enough) rfl
  f_place_by_rule := def_at c 19 (d := d_place_by_rule) rfl
  f_by_short_runs := def_at c 20 (d := d_by_short_runs) rfl
  f_placed := def_at c 21 (d := d_placed) rfl
  f_is_run := def_at c 22 (d := d_is_run) rfl
  f_end_of := def_at c 23 (d := d_end_of) rfl
  f_is_before := def_at c 24 (d := d_is_before) rfl
  f_joined := by
    obtain ⟨fd, F⟩ := def_at c 25 (d := d_joined) rfl
    exact ⟨fd, F, codeB_ok F (ex_at c 7 1 rfl rfl)⟩
  f_shared := def_at c 26 (d := d_shared) rfl
  f_others := def_at c 27 (d := d_others) rfl
  f_runs_of := def_at c 28 (d := d_runs_of) rfl
  f_pairs_of := def_at c 29 (d := d_pairs_of) rfl
  f_room_of := def_at c 30 (d := d_room_of) rfl
  f_check_disk := def_at c 31 (d := d_check_disk) rfl
  f_check_row := def_at c 32 (d := d_check_row) rfl
  f_steps_on := def_at c 33 (d := d_steps_on) rfl
  f_played := def_at c 34 (d := d_played) rfl
  f_law_hand := def_at c 35 (d := d_law_hand) rfl
  f_law_draw := def_at c 36 (d := d_law_draw) rfl
  f_law_parts := def_at c 37 (d := d_law_parts) rfl
  f_law_book := def_at c 38 (d := d_law_book) rfl
  f_law_idle := def_at c 39 (d := d_law_idle) rfl
  f_law_any := def_at c 40 (d := d_law_any) rfl
  f_law := def_at c 41 (d := d_law) rfl
  f_Book_init := def_at c 42 (d := d_Book_init) rfl
  f_Book_first := def_at c 43 (d := d_Book_first) rfl
  f_Book_step := def_at c 44 (d := d_Book_step) rfl
  f_Book_given := def_at c 45 (d := d_Book_given) rfl
  f_Book_call := def_at c 46 (d := d_Book_call) rfl
  f_Book_twin := def_at c 47 (d := d_Book_twin) rfl
  f_Pairs_init := def_at c 48 (d := d_Pairs_init) rfl
  f_Room_init := def_at c 49 (d := d_Room_init) rfl
  f_Room_runs := def_at c 50 (d := d_Room_runs) rfl
  f_Room_runs_from := def_at c 51 (d := d_Room_runs_from) rfl
  f_Room_amount := def_at c 52 (d := d_Room_amount) rfl
  f_Room_bool := def_at c 53 (d := d_Room_bool) rfl
  f_Room_sub := def_at c 54 (d := d_Room_sub) rfl
  f_File_init := def_at c 55 (d := d_File_init) rfl
  f_File_idle := def_at c 56 (d := d_File_idle) rfl
  f_File_pieces := def_at c 57 (d := d_File_pieces) rfl
  f_File_put_behind := def_at c 58 (d := d_File_put_behind) rfl
  f_Disk_init := def_at c 59 (d := d_Disk_init) rfl
  f_Disk_names := def_at c 60 (d := d_Disk_names) rfl
  f_Disk_free := def_at c 61 (d := d_Disk_free) rfl
  f_Disk_twin := def_at c 62 (d := d_Disk_twin) rfl
  f_Disk_contains := def_at c 63 (d := d_Disk_contains) rfl
  f_Disk_getitem := def_at c 64 (d := d_Disk_getitem) rfl
  f_Disk_make := def_at c 65 (d := d_Disk_make) rfl
  f_Disk_open_file := def_at c 66 (d := d_Disk_open_file) rfl
  f_Disk_grow := def_at c 67 (d := d_Disk_grow) rfl
  f_Disk_written_behind := def_at c 68 (d := d_Disk_written_behind) rfl
  f_Disk_do := def_at c 69 (d := d_Disk_do) rfl
  f_Refused_init := def_at c 70 (d := d_Refused_init) rfl
  g_is_integer := PySem.W.mg_of X G (He.eqO_ok (ex_at c 0 0 rfl rfl))
  g_check_integer := PySem.W.mg_of X G (He.eqO_ok (ex_at c 0 1 rfl rfl))
  g_is_name := PySem.W.mg_of X G (He.eqO_ok (ex_at c 0 2 rfl rfl))
  g_check_blocks := PySem.W.mg_of X G (He.eqO_ok (ex_at c 0 3 rfl rfl))
  g_whole_choices := PySem.W.mg_of X G (He.eqO_ok (ex_at c 0 4 rfl rfl))
  g_layers := PySem.W.mg_of X G (He.eqO_ok (ex_at c 0 5 rfl rfl))
  g_growths_at := PySem.W.mg_of X G (He.eqO_ok (ex_at c 0 6 rfl rfl))
  g_short_choices := PySem.W.mg_of X G (He.eqO_ok (ex_at c 0 7 rfl rfl))
  g_fullest := PySem.W.mg_of X G (He.eqO_ok (ex_at c 0 8 rfl rfl))
  g_most_idle_on := PySem.W.mg_of X G (He.eqO_ok (ex_at c 0 9 rfl rfl))
  g_row_of := PySem.W.mg_of X G (He.eqO_ok (ex_at c 0 10 rfl rfl))
  g_idle_row_on := PySem.W.mg_of X G (He.eqO_ok (ex_at c 0 11 rfl rfl))
  g_is_share := PySem.W.mg_of X G (He.eqO_ok (ex_at c 0 12 rfl rfl))
  g_part_of := PySem.W.mg_of X G (He.eqO_ok (ex_at c 0 13 rfl rfl))
  g_check_parts := PySem.W.mg_of X G (He.eqO_ok (ex_at c 0 14 rfl rfl))
  g_is_event := PySem.W.mg_of X G (He.eqO_ok (ex_at c 0 15 rfl rfl))
  g_is_enough := PySem.W.mg_of X G (He.eqO_ok (ex_at c 0 16 rfl rfl))
  g_first_enough := PySem.W.mg_of X G (He.eqO_ok (ex_at c 0 17 rfl rfl))
  g_best_enough := PySem.W.mg_of X G (He.eqO_ok (ex_at c 0 18 rfl rfl))
  g_place_by_rule := PySem.W.mg_of X G (He.eqO_ok (ex_at c 0 19 rfl rfl))
  g_by_short_runs := PySem.W.mg_of X G (He.eqO_ok (ex_at c 1 0 rfl rfl))
  g_placed := PySem.W.mg_of X G (He.eqO_ok (ex_at c 1 1 rfl rfl))
  g_is_run := PySem.W.mg_of X G (He.eqO_ok (ex_at c 1 2 rfl rfl))
  g_end_of := PySem.W.mg_of X G (He.eqO_ok (ex_at c 1 3 rfl rfl))
  g_is_before := PySem.W.mg_of X G (He.eqO_ok (ex_at c 1 4 rfl rfl))
  g_joined := PySem.W.mg_of X G (He.eqO_ok (ex_at c 1 5 rfl rfl))
  g_shared := PySem.W.mg_of X G (He.eqO_ok (ex_at c 1 6 rfl rfl))
  g_others := PySem.W.mg_of X G (He.eqO_ok (ex_at c 1 7 rfl rfl))
  g_runs_of := PySem.W.mg_of X G (He.eqO_ok (ex_at c 1 8 rfl rfl))
  g_pairs_of := PySem.W.mg_of X G (He.eqO_ok (ex_at c 1 9 rfl rfl))
  g_room_of := PySem.W.mg_of X G (He.eqO_ok (ex_at c 1 10 rfl rfl))
  g_check_disk := PySem.W.mg_of X G (He.eqO_ok (ex_at c 1 11 rfl rfl))
  g_check_row := PySem.W.mg_of X G (He.eqO_ok (ex_at c 1 12 rfl rfl))
  g_steps_on := PySem.W.mg_of X G (He.eqO_ok (ex_at c 1 13 rfl rfl))
  g_played := PySem.W.mg_of X G (He.eqO_ok (ex_at c 1 14 rfl rfl))
  g_law_hand := PySem.W.mg_of X G (He.eqO_ok (ex_at c 1 15 rfl rfl))
  g_law_draw := PySem.W.mg_of X G (He.eqO_ok (ex_at c 1 16 rfl rfl))
  g_law_parts := PySem.W.mg_of X G (He.eqO_ok (ex_at c 1 17 rfl rfl))
  g_law_book := PySem.W.mg_of X G (He.eqO_ok (ex_at c 1 18 rfl rfl))
  g_law_idle := PySem.W.mg_of X G (He.eqO_ok (ex_at c 1 19 rfl rfl))
  g_law_any := PySem.W.mg_of X G (He.eqO_ok (ex_at c 2 0 rfl rfl))
  g_law := PySem.W.mg_of X G (He.eqO_ok (ex_at c 2 1 rfl rfl))
  g_Book := PySem.W.mg_of X G (He.eqO_ok (ex_at c 2 2 rfl rfl))
  g_Pairs := PySem.W.mg_of X G (He.eqO_ok (ex_at c 2 3 rfl rfl))
  g_Room := PySem.W.mg_of X G (He.eqO_ok (ex_at c 2 4 rfl rfl))
  g_File := PySem.W.mg_of X G (He.eqO_ok (ex_at c 2 5 rfl rfl))
  g_Disk := PySem.W.mg_of X G (He.eqO_ok (ex_at c 2 6 rfl rfl))
  g_Refused := PySem.W.mg_of X G (He.eqO_ok (ex_at c 2 7 rfl rfl))
  g_GrowError := PySem.W.mg_of X G (He.eqO_ok (ex_at c 2 8 rfl rfl))
  c_Book := clsB_ok (ex_at c 2 9 rfl rfl)
  n_Book_own_first := He.eqO_ok (ex_at c 2 10 rfl rfl)
  n_Book_own_roof := He.eqO_ok (ex_at c 2 11 rfl rfl)
  n_Book_own_share := He.eqO_ok (ex_at c 2 12 rfl rfl)
  c_Pairs := clsB_ok (ex_at c 2 13 rfl rfl)
  n_Pairs_pairs := He.eqO_ok (ex_at c 2 14 rfl rfl)
  c_Room := clsB_ok (ex_at c 2 15 rfl rfl)
  n_Room_pairs := He.eqO_ok (ex_at c 2 16 rfl rfl)
  c_File := clsB_ok (ex_at c 2 17 rfl rfl)
  n_File_disk := He.eqO_ok (ex_at c 2 18 rfl rfl)
  n_File_name := He.eqO_ok (ex_at c 2 19 rfl rfl)
  n_File_size := He.eqO_ok (ex_at c 3 0 rfl rfl)
  n_File_hold := He.eqO_ok (ex_at c 3 1 rfl rfl)
  n_File_waiting := He.eqO_ok (ex_at c 3 2 rfl rfl)
  n_File_is_open := He.eqO_ok (ex_at c 3 3 rfl rfl)
  n_File_runs_held := He.eqO_ok (ex_at c 3 4 rfl rfl)
  c_Disk := clsB_ok (ex_at c 3 5 rfl rfl)
  n_Disk_own_book := He.eqO_ok (ex_at c 3 6 rfl rfl)
  n_Disk_rule := He.eqO_ok (ex_at c 3 7 rfl rfl)
  n_Disk_size := He.eqO_ok (ex_at c 3 8 rfl rfl)
  n_Disk_short := He.eqO_ok (ex_at c 3 9 rfl rfl)
  n_Disk_back := He.eqO_ok (ex_at c 3 10 rfl rfl)
  n_Disk_late := He.eqO_ok (ex_at c 3 11 rfl rfl)
  n_Disk_after := He.eqO_ok (ex_at c 3 12 rfl rfl)
  n_Disk_files := He.eqO_ok (ex_at c 3 13 rfl rfl)
  m_Book_step := methB_ok (ex_at c 3 14 rfl rfl)
  m_Book_given := methB_ok (ex_at c 3 15 rfl rfl)
  m_Book_twin := methB_ok (ex_at c 3 16 rfl rfl)
  m_Room_runs := methB_ok (ex_at c 3 17 rfl rfl)
  m_Room_runs_from := methB_ok (ex_at c 3 18 rfl rfl)
  m_Room_amount := methB_ok (ex_at c 3 19 rfl rfl)
  m_File_pieces := methB_ok (ex_at c 4 0 rfl rfl)
  m_File_put_behind := methB_ok (ex_at c 4 1 rfl rfl)
  m_Disk_names := methB_ok (ex_at c 4 2 rfl rfl)
  m_Disk_free := methB_ok (ex_at c 4 3 rfl rfl)
  m_Disk_twin := methB_ok (ex_at c 4 4 rfl rfl)
  m_Disk_make := methB_ok (ex_at c 4 5 rfl rfl)
  m_Disk_open_file := methB_ok (ex_at c 4 6 rfl rfl)
  m_Disk_grow := methB_ok (ex_at c 4 7 rfl rfl)
  m_Disk_written_behind := methB_ok (ex_at c 4 8 rfl rfl)
  m_Disk_do := methB_ok (ex_at c 4 9 rfl rfl)
  k_Book := mkB_ok (ex_at c 4 10 rfl rfl)
  k_Pairs := mkB_ok (ex_at c 4 11 rfl rfl)
  k_Room := mkB_ok (ex_at c 4 12 rfl rfl)
  k_File := mkB_ok (ex_at c 4 13 rfl rfl)
  k_Disk := mkB_ok (ex_at c 4 14 rfl rfl)
  p_Book_first := propB_ok (ex_at c 4 15 rfl rfl)
  p_File_idle := propB_ok (ex_at c 4 16 rfl rfl)
  s_Book_call := spcB_ok (ex_at c 4 17 rfl rfl)
  s_Room_bool := spcB_ok (ex_at c 4 18 rfl rfl)
  s_Room_sub := spcB_ok (ex_at c 4 19 rfl rfl)
  s_Disk_contains := spcB_ok (ex_at c 5 0 rfl rfl)
  s_Disk_getitem := spcB_ok (ex_at c 5 1 rfl rfl)
  i_Pairs := insB_ok (ex_at c 5 2 rfl rfl)
  i_Room := insB_ok (ex_at c 5 3 rfl rfl)
  i_list := of_decide_eq_true (ex_at c 5 4 rfl rfl)
  sf_Room := ex_at c 5 5 rfl rfl
  x_Refused := oexB_ok (ex_at c 5 6 rfl rfl)
  xf_Refused := xfB_ok (ex_at c 5 7 rfl rfl)
  xn_name := He.eqO_ok (ex_at c 5 8 rfl rfl)
  xn_need := He.eqO_ok (ex_at c 5 9 rfl rfl)
  xi_Refused := He.eqO_ok (ex_at c 5 10 rfl rfl)
  xt_Refused := of_decide_eq_true (ex_at c 5 11 rfl rfl)
  xe_Refused := of_decide_eq_true (ex_at c 5 12 rfl rfl)
  v_MOST := He.int_ok X G (ex_at c 5 13 rfl rfl)
  v_MOST_BLOCK := He.int_ok X G (ex_at c 5 14 rfl rfl)
  v_MOST_GROWTH := He.int_ok X G (ex_at c 5 15 rfl rfl)
  v_MOST_BLOCKS_refusals := He.int_ok X G (ex_at c 5 16 rfl rfl)
  v_MOST_FILES := He.int_ok X G (ex_at c 5 17 rfl rfl)
  v_MOST_SHARE := He.int_ok X G (ex_at c 5 18 rfl rfl)
  v_MOST_RUNS := He.int_ok X G (ex_at c 5 19 rfl rfl)
  v_MOST_BLOCKS_disks := He.int_ok X G (ex_at c 6 0 rfl rfl)
  v_MOST_EVENTS := He.int_ok X G (ex_at c 6 1 rfl rfl)
  v_SMALL := He.str_ok X G (ex_at c 6 2 rfl rfl)
  v_RULES := PySem.W.mg_of X G (He.eqO_ok (ex_at c 6 3 rfl rfl))
  t_RULES := tupAt_ok (ex_at c 6 4 rfl rfl)
  v_WORDS := PySem.W.mg_of X G (He.eqO_ok (ex_at c 6 5 rfl rfl))
  t_WORDS := tupAt_ok (ex_at c 6 6 rfl rfl)
  b_isinstance := PySem.W.mg_none_of X G (He.eqO_ok (ex_at c 6 7 rfl rfl))
  b_int := PySem.W.mg_none_of X G (He.eqO_ok (ex_at c 6 8 rfl rfl))
  b_bool := PySem.W.mg_none_of X G (He.eqO_ok (ex_at c 6 9 rfl rfl))
  b_str := PySem.W.mg_none_of X G (He.eqO_ok (ex_at c 6 10 rfl rfl))
  b_tuple := PySem.W.mg_none_of X G (He.eqO_ok (ex_at c 6 11 rfl rfl))
  b_list := PySem.W.mg_none_of X G (He.eqO_ok (ex_at c 6 12 rfl rfl))
  b_len := PySem.W.mg_none_of X G (He.eqO_ok (ex_at c 6 13 rfl rfl))
  b_range := PySem.W.mg_none_of X G (He.eqO_ok (ex_at c 6 14 rfl rfl))
  b_enumerate := PySem.W.mg_none_of X G (He.eqO_ok (ex_at c 6 15 rfl rfl))
  b_min := PySem.W.mg_none_of X G (He.eqO_ok (ex_at c 6 16 rfl rfl))
  b_max := PySem.W.mg_none_of X G (He.eqO_ok (ex_at c 6 17 rfl rfl))
  b_all := PySem.W.mg_none_of X G (He.eqO_ok (ex_at c 6 18 rfl rfl))
  b_sum := PySem.W.mg_none_of X G (He.eqO_ok (ex_at c 6 19 rfl rfl))
  b_sorted := PySem.W.mg_none_of X G (He.eqO_ok (ex_at c 7 0 rfl rfl))
def names0 : List Str := ["_wall", "__name__", "GrowError", "InvalidRuns", "InvalidBlock", "InvalidBook", "InvalidNumber", "InvalidRule", "InvalidDisk", "InvalidName", "KnownName", "UnknownName", "Closed", "Opened", "Refused", "InvalidEvent", "InvalidRow", "NotDone", "TooMany", "MOST"]
def names1 : List Str := ["MOST_BLOCK", "MOST_GROWTH", "SMALL", "is_integer", "check_integer", "is_name", "MOST_BLOCKS_refusals", "MOST_FILES", "check_blocks", "whole_choices", "layers", "growths_at", "short_choices", "fullest", "most_idle_on", "row_of", "idle_row_on", "MOST_SHARE", "is_share", "part_of"]
def names2 : List Str := ["least_hold", "check_parts", "Book", "step_of", "is_never_more", "WORDS", "is_event", "RULES", "is_enough", "first_enough", "best_enough", "place_by_rule", "by_short_runs", "placed", "MOST_RUNS", "is_run", "end_of", "is_before", "joined", "shared"]
def names3 : List Str := ["others", "runs_of", "Pairs", "Room", "pairs_of", "room_of", "MOST_BLOCKS_disks", "MOST_GIVINGS", "block_at", "File", "check_disk", "Disk", "MOST_EVENTS", "check_row", "steps_on", "played", "_law_hand", "_law_draw", "_law_parts", "_law_book"]
def names4 : List Str := ["_law_step", "_law_idle", "_law_any"]
def names : List Str := names0 ++ names1 ++ names2 ++ names3 ++ names4
end Gh
/-! ## GfHR -/
set_option Elab.async false
set_option linter.all false
set_option maxRecDepth 100000
set_option maxHeartbeats 0
namespace Gh
open PySem PySem.Spec PyProof.Rows L2 Wm Gt
theorem run (w : World) : HandSHeadRun.RunEq R (PySem.W.view R.prog [92]) hk ob 40000 names w := by
  intro os
  kernel_rfl
end Gh
/-! ## GfZ -/
set_option Elab.async false
set_option linter.all false
set_option maxRecDepth 100000
set_option maxHeartbeats 0
/-! The end: the head's facts, the law's promise, the row. -/
namespace Gh
open PySem PySem.Spec PyProof.Rows L2 Wm Gt
theorem tabs0 {H : Hp} (h : H 684 = some (.tbl #[])) : LamX.Tabs T0 H := fun p hp => by
  rw [List.mem_singleton.mp hp]
  exact LamX.TabS.nil h
theorem law_at {w : World} {K : PySem.W.Frag} {h : Heap} {mg : Str → Option Value} {fa : Addr} (X : K.In h) (G : h.Ns mainGlobals mg) (hmg : mg ("law" : Str) = some (.ref fa)) (c : Says h K) :
    LamX.LawAtS PySem.Challenge.rw_grownfiles_k65_whole_idle_rows_on_disks w K CX0 17 63 "_law_script" mg fa h := by
  have T : Txt K mg := txt c X G
  have e := hmg.symm.trans T.g_law
  cases e
  obtain ⟨fd, F⟩ := T.f_law
  have b := FunD.bindsA (ps := ["_law_script"]) F fun _ _ _ _ _ _ us hl => match us, hl with | [_], _ => rfl
  refine ⟨fd, [(688, 684)], spLaw K, fun p hp => ?_, fun p hp => ?_, fun p hp => ?_, fun s u => b s [u] rfl, fun H a ns hl _ hT hS => ⟨a, ns, rfl, hS, hl, tabs0 (hT _ (List.mem_singleton.mpr rfl)), fun _ => rfl⟩, fun base _ _ tb => fn_law T (tb _ (List.mem_singleton.mpr rfl)) F⟩
  · rw [List.mem_singleton.mp hp]
    exact c.empty
  · rw [List.mem_singleton.mp hp]
    exact c.out
  · rw [List.mem_singleton.mp hp]
    exact PySem.W.codeHd_of_K X c.hd
end Gh
open PySem PySem.W PySem.Calls PyProof.Rows
theorem PySem.Challenge.cw_grownfiles_k65_whole_idle_rows_on_disks_holds : PySem.Challenge.rw_grownfiles_k65_whole_idle_rows_on_disks.Holds := by
  w_on; o_law
  refine HandSHeadRun.head_any (r := OpenLaw.row PySem.Challenge.rw_grownfiles_k65_whole_idle_rows_on_disks) (q := view (OpenLaw.row PySem.Challenge.rw_grownfiles_k65_whole_idle_rows_on_disks).prog [92]) (H := Gh.hk) (ob := Gh.ob) (M := 40000) (loose := Gh.names) (d := HandSHeadRun.topDef (OpenLaw.row PySem.Challenge.rw_grownfiles_k65_whole_idle_rows_on_disks).prog 92) (kwd := []) Gh.ob_eq
    (by kernel_rfl) (fun s => by kernel_rfl) Gh.run (by kernel_rfl) (by kernel_rfl) (by kernel_rfl) (by rfl) (by first | assumption | decide +kernel) (by decide +kernel) ⟨rfl, rfl, rfl, rfl, rfl, by decide +kernel⟩ ?hw ?hc
  case hw => w_witness2
  case hc =>
    refine LamX.walk_ofTsE (l := PySem.Challenge.rw_grownfiles_k65_whole_idle_rows_on_disks) (n := 63) (k := 17) (x := "_law_script") (CX := fun _ => L2.CX0) rfl (by decide) (by kernel_rfl) ⟨rfl, by decide, by decide⟩ ?F (fun _ _ _ _ _ z => z)
    intro w mg fa h Y G hmg0
    obtain ⟨K, KX, c⟩ := Y
    have hmg : mg ("law" : PySem.Str) = some (.ref fa) := by
      have e : (HandSHeadRun.topDef (OpenLaw.row PySem.Challenge.rw_grownfiles_k65_whole_idle_rows_on_disks).prog 92).name = ("law" : PySem.Str) := by kernel_rfl
      rw [← e]
      exact hmg0
    exact ⟨K, KX, Gh.law_at KX G hmg c⟩
