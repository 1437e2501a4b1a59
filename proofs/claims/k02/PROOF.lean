import PyProof.Rows.All
import Wide.All
import OpenK.AllK
import Wide.FinOn
import HandS.ForMost
import HandS.DictTup
import HandS.TupSets
import HandS.TupAny
import HandS.TupMul
import HandS.Conv
import HandS.Deep
import HandS.Style
import HandS.IsInst
import HandS.Exc
import HandS.ExcOwn
import HandS.WordsExc
import HandS.TryOnly
import HandS.SetKeys
import HandS.Strs
import HandS.Zip
import HandS.SortRule
import HandS.SortInts
import HandS.Walk
import HandS.Codes
import HandS.EndTab
import HandS.AnyAll
import HandS.GenOver
import PySem.Challenge.RW_shrinkweb_k02_whole_shrinks
import KE.GoesNewDict
import KE.KDictDisplayH
import HandS.SetFor
import HandS.RaiseMore
import HandS.ForExc
import KE.KRevSl
import HandS.Defaults
import HandS.Head0
import HandS.Head1
import HandS.Head2
import HandS.HeadEnd
import HandS.HeadHook1
import HandS.HeadHook2
import HandS.HeadHook3
import HandS.HeadHook4
import HandS.HeadWalk
set_option Elab.async false
set_option linter.all false
set_option maxRecDepth 100000
set_option maxHeartbeats 8000000
/-! M1: webs, ways, levels; breadth-first search by levels. -/
namespace K2
/-! ### lists -/
theorem mem_of_get {α : Type} {l : List α} {i : Nat} {x : α} (h : l[i]? = some x) : x ∈ l := List.mem_of_getElem? h
theorem get_of_mem {α : Type} {l : List α} {x : α} (h : x ∈ l) : ∃ i : Nat, i < l.length ∧ l[i]? = some x := by
  obtain ⟨i, hi, e⟩ := List.getElem_of_mem h
  exact ⟨i, hi, by rw [List.getElem?_eq_getElem hi, e]⟩
theorem lt_of_get {α : Type} {l : List α} {i : Nat} {x : α} (h : l[i]? = some x) : i < l.length := (List.getElem?_eq_some_iff.mp h).1
theorem get_of_lt {α : Type} {l : List α} {i : Nat} (h : i < l.length) : ∃ x, l[i]? = some x := ⟨l[i], List.getElem?_eq_getElem h⟩
/-- a list without doubles that lies in another is not longer -/
theorem nd_le {α : Type} [DecidableEq α] : ∀ (l m : List α), l.Nodup → (∀ x, x ∈ l → x ∈ m) → l.length ≤ m.length
  | [], _, _, _ => Nat.zero_le _
  | a :: r, m, h, hs => by
    have ha : a ∈ m := hs a List.mem_cons_self
    obtain ⟨h1, h2⟩ := List.nodup_cons.mp h
    have ih := nd_le r (m.erase a) h2 fun x hx => by
      have hx2 : x ∈ m := hs x (List.mem_cons_of_mem _ hx)
      have ne : x ≠ a := fun e => h1 (e ▸ hx)
      exact (List.mem_erase_of_ne ne).mpr hx2
    rw [List.length_erase_of_mem ha] at ih
    have hp : 0 < m.length := List.length_pos_of_mem ha
    rw [List.length_cons]
    omega
/-- and if as long, all of the other lies in it -/
theorem nd_all {α : Type} [DecidableEq α] {l m : List α} (h : l.Nodup) (hs : ∀ x, x ∈ l → x ∈ m) (hl : m.length ≤ l.length) : ∀ x, x ∈ m → x ∈ l := fun x hx => by
  by_cases hxl : x ∈ l
  · exact hxl
  · have h2 := nd_le l (m.erase x) h fun y hy => (List.mem_erase_of_ne (show y ≠ x from fun e => hxl (e ▸ hy))).mpr (hs y hy)
    rw [List.length_erase_of_mem hx] at h2
    have hp : 0 < m.length := List.length_pos_of_mem hx
    omega
/-! ### webs -/
abbrev Web := List (List (Nat × Nat))
def door (W : Web) (r d : Nat) : Option (Nat × Nat) := (W[r]?).bind fun ds => ds[d]?
def deg (W : Web) (r : Nat) : Nat := (W.getD r []).length
def go (W : Web) : Nat → List Nat → Option Nat
  | r, [] => some r
  | r, d :: ds => (door W r d).bind fun p => go W p.1 ds
structure Ok (W : Web) : Prop where
  n2 : 2 ≤ W.length
  n7 : W.length ≤ 7
  deg : ∀ (r : Nat) ds, W[r]? = some ds → 1 ≤ ds.length ∧ ds.length ≤ 4
  back : ∀ r d t b, door W r d = some (t, b) → t ≠ r ∧ door W t b = some (r, d)
  conn : ∀ r, r < W.length → ∃ row, go W 0 row = some r
theorem door_at {W : Web} {r d : Nat} {ds : List (Nat × Nat)} (h : W[r]? = some ds) : door W r d = ds[d]? := by
  unfold door; rw [h]; rfl
theorem door_lt {W : Web} {r d : Nat} {p : Nat × Nat} (h : door W r d = some p) : r < W.length ∧ d < deg W r := by
  unfold door at h
  cases e : W[r]? with
  | none => rw [e] at h; cases h
  | some ds =>
    rw [e] at h
    have h' : ds[d]? = some p := h
    refine ⟨lt_of_get e, ?_⟩
    unfold deg
    rw [List.getD_eq_getElem?_getD, e]
    exact lt_of_get h'
theorem deg_at {W : Web} {r : Nat} {ds : List (Nat × Nat)} (h : W[r]? = some ds) : deg W r = ds.length := by
  unfold deg
  rw [List.getD_eq_getElem?_getD, h]; rfl
theorem door_of_lt {W : Web} {r d : Nat} (h : d < deg W r) : ∃ p, door W r d = some p := by
  unfold deg at h
  rw [List.getD_eq_getElem?_getD] at h
  cases e : W[r]? with
  | none => rw [e] at h; exact absurd h (Nat.not_lt_zero _)
  | some ds =>
    rw [e] at h
    unfold door
    rw [e]
    exact get_of_lt h
theorem door_none {W : Web} {r d : Nat} (h : deg W r ≤ d) : door W r d = none := by
  cases e : door W r d with
  | none => rfl
  | some p => exact absurd (door_lt e).2 (by omega)
section
variable {W : Web} (ok : Ok W)
theorem Ok.to (ok : Ok W) {r d t b : Nat} (h : door W r d = some (t, b)) : t < W.length := (door_lt (ok.back _ _ _ _ h).2).1
theorem Ok.deg4 (ok : Ok W) {r : Nat} : K2.deg W r ≤ 4 := by
  by_cases h : r < W.length
  · obtain ⟨ds, e⟩ := get_of_lt h
    rw [deg_at e]; exact (ok.deg r ds e).2
  · unfold K2.deg
    rw [List.getD_eq_getElem?_getD, List.getElem?_eq_none (by omega)]
    exact Nat.zero_le _
theorem Ok.deg1 (ok : Ok W) {r : Nat} (h : r < W.length) : 1 ≤ K2.deg W r := by
  obtain ⟨ds, e⟩ := get_of_lt h
  rw [deg_at e]; exact (ok.deg r ds e).1
theorem Ok.b4 (ok : Ok W) {r d t b : Nat} (h : door W r d = some (t, b)) : b < 4 := Nat.lt_of_lt_of_le (door_lt (ok.back _ _ _ _ h).2).2 ok.deg4
end
theorem go_nil {W : Web} {r : Nat} : go W r [] = some r := rfl
theorem go_cons {W : Web} {r d : Nat} {ds : List Nat} : go W r (d :: ds) = (door W r d).bind fun p => go W p.1 ds := rfl
theorem go_append {W : Web} : ∀ (xs ys : List Nat) (r : Nat), go W r (xs ++ ys) = (go W r xs).bind fun t => go W t ys
  | [], ys, r => rfl
  | d :: xs, ys, r => by
    rw [List.cons_append, go_cons, go_cons]
    cases e : door W r d with
    | none => rfl
    | some p => exact go_append xs ys p.1
theorem go_snoc {W : Web} {r d t b : Nat} {xs : List Nat} {s : Nat} (h : go W r xs = some s) (hd : door W s d = some (t, b)) : go W r (xs ++ [d]) = some t := by
  rw [go_append, h]
  show go W s [d] = some t
  rw [go_cons, hd]; rfl
theorem go_lt {W : Web} (ok : Ok W) : ∀ (row : List Nat) (r t : Nat), r < W.length → go W r row = some t → t < W.length
  | [], r, t, hr, h => by cases h; exact hr
  | d :: ds, r, t, hr, h => by
    rw [go_cons] at h
    cases e : door W r d with
    | none => rw [e] at h; cases h
    | some p =>
      rw [e] at h
      exact go_lt ok ds p.1 t (ok.to (b := p.2) e) h
theorem go_back {W : Web} (ok : Ok W) : ∀ (row : List Nat) (r t : Nat), go W r row = some t → ∃ row', row'.length = row.length ∧ go W t row' = some r
  | [], r, t, h => by cases h; exact ⟨[], rfl, rfl⟩
  | d :: ds, r, t, h => by
    rw [go_cons] at h
    cases e : door W r d with
    | none => rw [e] at h; cases h
    | some p =>
      rw [e] at h
      obtain ⟨row', hl, h'⟩ := go_back ok ds p.1 t h
      exact ⟨row' ++ [p.2], by simp [hl], go_snoc h' (ok.back r d p.1 p.2 e).2⟩
theorem go_ex {W : Web} (ok : Ok W) {a b : Nat} (ha : a < W.length) (hb : b < W.length) : ∃ row, go W a row = some b := by
  obtain ⟨r1, h1⟩ := ok.conn a ha
  obtain ⟨r2, h2⟩ := ok.conn b hb
  obtain ⟨r3, _, h3⟩ := go_back ok r1 0 a h1
  exact ⟨r3 ++ r2, by rw [go_append, h3]; exact h2⟩
/-! ### least numbers -/
theorem least {p : Nat → Prop} {n : Nat} (h : p n) : ∃ k, k ≤ n ∧ p k ∧ ∀ j, j < k → ¬ p j := by
  induction n using Nat.strongRecOn with
  | ind n ih =>
    by_cases hj : ∃ j, j < n ∧ p j
    · obtain ⟨j, hj, pj⟩ := hj
      obtain ⟨k, h1, h2, h3⟩ := ih j hj pj
      exact ⟨k, by omega, h2, h3⟩
    · exact ⟨n, Nat.le_refl _, h, fun j hj2 pj => hj ⟨j, hj2, pj⟩⟩
/-! ### levels -/
section
variable {α : Type} (S : α → α → Prop) (s : α)
def Lv : Nat → α → Prop
  | 0, x => x = s
  | k + 1, y => ∃ x, Lv k x ∧ S x y
def Md (k : Nat) (x : α) : Prop := Lv S s k x ∧ ∀ j, j < k → ¬ Lv S s j x
end
section
variable {α : Type} {S : α → α → Prop} {s : α}
theorem Md.zero : Md S s 0 s := ⟨rfl, fun _ h => absurd h (Nat.not_lt_zero _)⟩
theorem Md.uniq {j k : Nat} {x : α} (a : Md S s j x) (b : Md S s k x) : j = k := by
  rcases Nat.lt_trichotomy j k with h | h | h
  · exact absurd a.1 (b.2 j h)
  · exact h
  · exact absurd b.1 (a.2 k h)
theorem Lv.md {k : Nat} {x : α} (h : Lv S s k x) : ∃ j, j ≤ k ∧ Md S s j x := by
  obtain ⟨j, h1, h2, h3⟩ := least (p := fun j => Lv S s j x) h
  exact ⟨j, h1, h2, h3⟩
theorem Md.step {k : Nat} {x y : α} (h : Md S s k x) (hs : S x y) : ∃ j, j ≤ k + 1 ∧ Md S s j y := Lv.md (k := k + 1) ⟨x, h.1, hs⟩
theorem Md.pred {k : Nat} {y : α} (h : Md S s (k + 1) y) : ∃ x, Md S s k x ∧ S x y := by
  obtain ⟨x, hx, hs⟩ := h.1
  exact ⟨x, ⟨hx, fun j hj hl => h.2 (j + 1) (by omega) ⟨x, hl, hs⟩⟩, hs⟩
theorem Md.none {k : Nat} (h : ∀ x, ¬ Md S s k x) : ∀ (i : Nat) (x : α), ¬ Md S s (k + i) x
  | 0, x => h x
  | i + 1, x => fun q => by
    obtain ⟨y, hy, _⟩ := Md.pred (k := k + i) q
    exact Md.none h i y hy
/-- between two turns: the layers up to k are found, each with its level; the last one is «layer» -/
structure Bf (S : α → α → Prop) (s : α) (k : Nat) (fs : List (α × Nat)) (layer : List α) : Prop where
  mem : ∀ x j, (x, j) ∈ fs ↔ (j ≤ k ∧ Md S s j x)
  nd : (fs.map Prod.fst).Nodup
  lay : ∀ x, x ∈ layer ↔ Md S s k x
  ord : (fs.map Prod.snd).Pairwise (· ≤ ·)
theorem Bf.start : Bf S s 0 [(s, 0)] [s] where
  mem := fun x j => by
    constructor
    · intro h
      have e := List.mem_singleton.mp h
      injection e with e1 e2
      subst e1; subst e2
      exact ⟨Nat.le_refl _, Md.zero⟩
    · intro ⟨h1, h2⟩
      have hj : j = 0 := by omega
      subst hj
      have e : x = s := h2.1
      rw [e]; exact List.mem_singleton.mpr rfl
  nd := by simp
  lay := fun x => by
    constructor
    · intro h; rw [List.mem_singleton.mp h]; exact Md.zero
    · intro h; rw [show x = s from h.1]; exact List.mem_singleton.mpr rfl
  ord := by simp
/-- within a turn: «later» holds what is new; seen: the steps looked at -/
structure Bi (S : α → α → Prop) (s : α) (k : Nat) (fs0 : List (α × Nat)) (layer : List α) (fs : List (α × Nat)) (later : List α) (seen : α → Prop) : Prop where
  bf : Bf S s k fs0 layer
  eq : fs = fs0 ++ later.map fun y => (y, k + 1)
  nd : (fs.map Prod.fst).Nodup
  lat : ∀ y, y ∈ later → Md S s (k + 1) y
  seen : ∀ y, seen y → y ∈ fs.map Prod.fst
theorem Bi.start {k : Nat} {fs0 : List (α × Nat)} {layer : List α} (b : Bf S s k fs0 layer) : Bi S s k fs0 layer fs0 [] (fun _ => False) :=
  ⟨b, by simp, b.nd, fun _ h => absurd h (by simp), fun _ h => h.elim⟩
theorem Bi.weak {k : Nat} {fs0 : List (α × Nat)} {layer : List α} {fs : List (α × Nat)} {later : List α} {P P' : α → Prop} (b : Bi S s k fs0 layer fs later P) (h : ∀ y, P' y → P y) : Bi S s k fs0 layer fs later P' :=
  ⟨b.bf, b.eq, b.nd, b.lat, fun y hy => b.seen y (h y hy)⟩
theorem Bi.old {k : Nat} {fs0 : List (α × Nat)} {layer : List α} {fs : List (α × Nat)} {later : List α} {P : α → Prop} (b : Bi S s k fs0 layer fs later P) {y : α} (h : y ∈ fs.map Prod.fst) : Bi S s k fs0 layer fs later (fun z => P z ∨ z = y) :=
  ⟨b.bf, b.eq, b.nd, b.lat, fun z hz => by
    rcases hz with hz | hz
    · exact b.seen z hz
    · rw [hz]; exact h⟩
theorem Bi.new {k : Nat} {fs0 : List (α × Nat)} {layer : List α} {fs : List (α × Nat)} {later : List α} {P : α → Prop} (b : Bi S s k fs0 layer fs later P) {x y : α} (hx : x ∈ layer) (hs : S x y) (h : y ∉ fs.map Prod.fst) :
    Bi S s k fs0 layer (fs ++ [(y, k + 1)]) (later ++ [y]) (fun z => P z ∨ z = y) := by
  have md : Md S s (k + 1) y := by
    obtain ⟨j, hj, hm⟩ := Md.step ((b.bf.lay x).mp hx) hs
    by_cases e : j = k + 1
    · rw [e] at hm; exact hm
    · refine absurd ?_ h
      rw [b.eq, List.map_append, List.mem_append]
      exact .inl (List.mem_map.mpr ⟨(y, j), (b.bf.mem y j).mpr ⟨by omega, hm⟩, rfl⟩)
  refine ⟨b.bf, by rw [b.eq, List.map_append, List.append_assoc]; rfl, ?_, fun z hz => ?_, fun z hz => ?_⟩
  · rw [List.map_append, List.nodup_append]
    refine ⟨b.nd, by simp, fun a ha c hc => ?_⟩
    have e : c = y := by simpa using hc
    rw [e]
    exact fun e2 => h (e2 ▸ ha)
  · rcases List.mem_append.mp hz with hz | hz
    · exact b.lat z hz
    · rw [List.mem_singleton.mp hz]; exact md
  · rw [List.map_append, List.mem_append]
    rcases hz with hz | hz
    · exact .inl (b.seen z hz)
    · exact .inr (by rw [hz]; simp)
theorem Bi.done {k : Nat} {fs0 : List (α × Nat)} {layer : List α} {fs : List (α × Nat)} {later : List α} {P : α → Prop} (b : Bi S s k fs0 layer fs later P) (h : ∀ x y, x ∈ layer → S x y → P y) : Bf S s (k + 1) fs later := by
  have fwd : ∀ x j, (x, j) ∈ fs → j ≤ k + 1 ∧ Md S s j x := fun x j hm => by
    rw [b.eq] at hm
    rcases List.mem_append.mp hm with hm | hm
    · obtain ⟨h1, h2⟩ := (b.bf.mem x j).mp hm
      exact ⟨by omega, h2⟩
    · obtain ⟨y, hy, e⟩ := List.mem_map.mp hm
      injection e with e1 e2
      subst e1; subst e2
      exact ⟨Nat.le_refl _, b.lat y hy⟩
  have bwd : ∀ y, Md S s (k + 1) y → (y, k + 1) ∈ fs := fun y hy => by
    obtain ⟨x, hx, hs⟩ := Md.pred hy
    obtain ⟨⟨y', j⟩, hm, e⟩ := List.mem_map.mp (b.seen y (h x y ((b.bf.lay x).mpr hx) hs))
    have e' : y' = y := e
    subst e'
    have := (fwd y' j hm).2.uniq hy
    rw [← this]; exact hm
  refine ⟨fun x j => ⟨fwd x j, fun ⟨h1, h2⟩ => ?_⟩, b.nd, fun y => ⟨b.lat y, fun hy => ?_⟩, ?_⟩
  · by_cases e : j = k + 1
    · subst e; exact bwd x h2
    · rw [b.eq]; exact List.mem_append_left _ ((b.bf.mem x j).mpr ⟨by omega, h2⟩)
  · have hm := bwd y hy
    rw [b.eq] at hm
    rcases List.mem_append.mp hm with hm | hm
    · exact absurd ((b.bf.mem y (k + 1)).mp hm).1 (by omega)
    · obtain ⟨z, hz, e⟩ := List.mem_map.mp hm
      injection e with e1 e2
      rw [← e1]; exact hz
  · rw [b.eq, List.map_append, List.pairwise_append]
    refine ⟨b.bf.ord, ?_, fun x hx y hy => ?_⟩
    · rw [List.map_map]
      exact List.pairwise_map.mpr (List.pairwise_of_forall fun _ _ => Nat.le_refl _)
    · obtain ⟨⟨a, j⟩, ha, e⟩ := List.mem_map.mp hx
      obtain ⟨q, hq, e2⟩ := List.mem_map.mp hy
      obtain ⟨c, _, e3⟩ := List.mem_map.mp hq
      have h1 := ((b.bf.mem a j).mp ha).1
      have h2 : y = k + 1 := by rw [← e2, ← e3]
      have h3 : x = j := e.symm
      omega
/-- the end: all that can be come to is found, with its level -/
theorem Bf.fin {k : Nat} {fs : List (α × Nat)} (b : Bf S s k fs []) : ∀ x j, (x, j) ∈ fs ↔ Md S s j x := fun x j => by
  refine ⟨fun h => ((b.mem x j).mp h).2, fun h => (b.mem x j).mpr ⟨?_, h⟩⟩
  by_cases hj : j ≤ k
  · exact hj
  · have no : ∀ x, ¬ Md S s k x := fun x q => absurd ((b.lay x).mpr q) (by simp)
    exact absurd (show Md S s (k + (j - k)) x by rw [show k + (j - k) = j by omega]; exact h) (Md.none no (j - k) x)
theorem Bi.size [DecidableEq α] {k : Nat} {fs0 : List (α × Nat)} {layer : List α} {fs : List (α × Nat)} {later : List α} {P : α → Prop} (b : Bi S s k fs0 layer fs later P) (U : List α) (hU : ∀ k x, Lv S s k x → x ∈ U) : fs.length ≤ U.length := by
  have h := nd_le (fs.map Prod.fst) U b.nd fun x hx => by
    obtain ⟨⟨y, j⟩, hm, e⟩ := List.mem_map.mp hx
    have e' : y = x := e
    rw [← e']
    rw [b.eq] at hm
    rcases List.mem_append.mp hm with hm | hm
    · exact hU j y ((b.bf.mem y j).mp hm).2.1
    · obtain ⟨z, hz, e2⟩ := List.mem_map.mp hm
      injection e2 with e3 e4
      rw [← e3]
      exact hU (k + 1) z (b.lat z hz).1
  rwa [List.length_map] at h
theorem Bf.size [DecidableEq α] {k : Nat} {fs : List (α × Nat)} {layer : List α} (b : Bf S s k fs layer) (U : List α) (hU : ∀ k x, Lv S s k x → x ∈ U) : fs.length ≤ U.length := by
  have h := nd_le (fs.map Prod.fst) U b.nd fun x hx => by
    obtain ⟨⟨y, j⟩, hm, e⟩ := List.mem_map.mp hx
    have e' : y = x := e
    rw [← e']
    exact hU j y ((b.mem y j).mp hm).2.1
  rwa [List.length_map] at h
end
/-! ### rooms by levels -/
def Sr (W : Web) (a b : Nat) : Prop := ∃ d bk, door W a d = some (b, bk)
theorem lv_go {W : Web} {a : Nat} : ∀ {k b : Nat}, Lv (Sr W) a k b ↔ ∃ row, row.length = k ∧ go W a row = some b
  | 0, b => by
    constructor
    · intro h; exact ⟨[], rfl, by rw [show b = a from h]; rfl⟩
    · intro ⟨row, h1, h2⟩
      have e : row = [] := List.eq_nil_of_length_eq_zero h1
      subst e
      cases h2; rfl
  | k + 1, b => by
    constructor
    · intro ⟨x, hx, d, bk, hd⟩
      obtain ⟨row, h1, h2⟩ := lv_go.mp hx
      exact ⟨row ++ [d], by simp [h1], go_snoc h2 hd⟩
    · intro ⟨row, h1, h2⟩
      have hne : row ≠ [] := fun e => by rw [e] at h1; cases h1
      have e := List.dropLast_concat_getLast hne
      rw [← e, go_append] at h2
      cases e3 : go W a row.dropLast with
      | none => rw [e3] at h2; cases h2
      | some x =>
        rw [e3] at h2
        have h4 : go W x [row.getLast hne] = some b := h2
        rw [go_cons] at h4
        cases e5 : door W x (row.getLast hne) with
        | none => rw [e5] at h4; cases h4
        | some p =>
          rw [e5] at h4
          have e6 : p.1 = b := Option.some.inj h4
          exact ⟨x, lv_go.mpr ⟨row.dropLast, by rw [List.length_dropLast, h1]; rfl, e3⟩, _, p.2, by rw [e5, ← e6]⟩
/-- the distance of two rooms -/
abbrev Ds (W : Web) (a b k : Nat) : Prop := Md (Sr W) a k b
theorem ds_ex {W : Web} (ok : Ok W) {a b : Nat} (ha : a < W.length) (hb : b < W.length) : ∃ k, Ds W a b k := by
  obtain ⟨row, h⟩ := go_ex ok ha hb
  obtain ⟨j, _, h2⟩ := Lv.md (lv_go.mpr ⟨row, rfl, h⟩)
  exact ⟨j, h2⟩
open Classical in
noncomputable def dist (W : Web) (a b : Nat) : Nat := if h : ∃ k, Ds W a b k then choose h else 0
theorem dist_of {W : Web} {a b k : Nat} (h : Ds W a b k) : dist W a b = k := by
  have he : ∃ k, Ds W a b k := ⟨k, h⟩
  unfold dist
  rw [dif_pos he]
  exact (Classical.choose_spec he).uniq h
theorem dist_is {W : Web} (ok : Ok W) {a b : Nat} (ha : a < W.length) (hb : b < W.length) : Ds W a b (dist W a b) := by
  obtain ⟨k, h⟩ := ds_ex ok ha hb
  rw [dist_of h]; exact h
end K2
/-! M2: alike rooms, pairs of rooms by levels, shrink, near. -/
namespace K2
structure Sim (W : Web) (R : Nat → Nat → Prop) : Prop where
  deg : ∀ a b, R a b → deg W a = deg W b
  step : ∀ a b d t1 b1 t2 b2, R a b → door W a d = some (t1, b1) → door W b d = some (t2, b2) → b1 = b2 ∧ R t1 t2
def Alike (W : Web) (a b : Nat) : Prop := ∃ R, Sim W R ∧ R a b
theorem alike_sim {W : Web} : Sim W (Alike W) where
  deg := fun a b ⟨R, s, h⟩ => s.deg a b h
  step := fun a b d t1 b1 t2 b2 ⟨R, s, h⟩ h1 h2 => ⟨(s.step a b d t1 b1 t2 b2 h h1 h2).1, R, s, (s.step a b d t1 b1 t2 b2 h h1 h2).2⟩
theorem Alike.refl {W : Web} (a : Nat) : Alike W a a :=
  ⟨fun x y => x = y, ⟨fun a b h => by rw [h], fun a b d t1 b1 t2 b2 h h1 h2 => by
    subst h
    rw [h1] at h2
    injection h2 with h2
    injection h2 with e1 e2
    exact ⟨e2, e1⟩⟩, rfl⟩
theorem Alike.step {W : Web} {a b d t1 b1 : Nat} (h : Alike W a b) (h1 : door W a d = some (t1, b1)) : ∃ t2, door W b d = some (t2, b1) ∧ Alike W t1 t2 := by
  have e := alike_sim.deg a b h
  have hd := (door_lt h1).2
  rw [e] at hd
  obtain ⟨⟨t2, b2⟩, h2⟩ := door_of_lt hd
  obtain ⟨e1, h3⟩ := alike_sim.step a b d t1 b1 t2 b2 h h1 h2
  exact ⟨t2, by rw [e1]; exact h2, h3⟩
theorem Alike.go {W : Web} : ∀ (row : List Nat) {a b a' : Nat}, Alike W a b → go W a row = some a' → ∃ b', go W b row = some b' ∧ Alike W a' b'
  | [], a, b, a', h, e => by cases e; exact ⟨b, rfl, h⟩
  | d :: ds, a, b, a', h, e => by
    rw [go_cons] at e
    cases e1 : door W a d with
    | none => rw [e1] at e; cases e
    | some p =>
      obtain ⟨t1, b1⟩ := p
      rw [e1] at e
      obtain ⟨t2, h2, h3⟩ := h.step e1
      obtain ⟨b', h4, h5⟩ := Alike.go ds h3 (show K2.go W t1 ds = some a' from e)
      exact ⟨b', by rw [go_cons, h2]; exact h4, h5⟩
/-! ### pairs -/
def Sq (W : Web) (p q : Nat × Nat) : Prop := ∃ d b1 b2, door W p.1 d = some (q.1, b1) ∧ door W p.2 d = some (q.2, b2)
theorem lv_go2 {W : Web} {s : Nat × Nat} : ∀ {k : Nat} {p : Nat × Nat}, Lv (Sq W) s k p ↔ ∃ row, row.length = k ∧ go W s.1 row = some p.1 ∧ go W s.2 row = some p.2
  | 0, p => by
    constructor
    · intro h; exact ⟨[], rfl, by rw [show p = s from h]; exact ⟨rfl, rfl⟩⟩
    · intro ⟨row, h1, h2, h3⟩
      have e : row = [] := List.eq_nil_of_length_eq_zero h1
      subst e
      have e1 : s.1 = p.1 := Option.some.inj h2
      have e2 : s.2 = p.2 := Option.some.inj h3
      exact Prod.ext e1.symm e2.symm
  | k + 1, p => by
    constructor
    · intro ⟨x, hx, d, b1, b2, h1, h2⟩
      obtain ⟨row, g0, g1, g2⟩ := lv_go2.mp hx
      exact ⟨row ++ [d], by simp [g0], go_snoc g1 h1, go_snoc g2 h2⟩
    · intro ⟨row, h1, h2, h3⟩
      have hne : row ≠ [] := fun e => by rw [e] at h1; cases h1
      have e := List.dropLast_concat_getLast hne
      have key : ∀ r t, go W r row = some t → ∃ x b, go W r row.dropLast = some x ∧ door W x (row.getLast hne) = some (t, b) := fun r t h => by
        rw [← e, go_append] at h
        cases e3 : go W r row.dropLast with
        | none => rw [e3] at h; cases h
        | some x =>
          rw [e3] at h
          have h4 : go W x [row.getLast hne] = some t := h
          rw [go_cons] at h4
          cases e5 : door W x (row.getLast hne) with
          | none => rw [e5] at h4; cases h4
          | some q =>
            rw [e5] at h4
            have e6 : q.1 = t := Option.some.inj h4
            exact ⟨x, q.2, rfl, by rw [e5, ← e6]⟩
      obtain ⟨x, b1, g1, k1⟩ := key _ _ h2
      obtain ⟨y, b2, g2, k2⟩ := key _ _ h3
      exact ⟨(x, y), lv_go2.mpr ⟨row.dropLast, by rw [List.length_dropLast, h1]; rfl, g1, g2⟩, _, b1, b2, k1, k2⟩
/-- level k of the pairs from (a, b) -/
abbrev Pl (W : Web) (a b : Nat) (k : Nat) (p : Nat × Nat) : Prop := Md (Sq W) (a, b) k p
/-- can be come to -/
def Rp (W : Web) (a b : Nat) (p : Nat × Nat) : Prop := ∃ k, Pl W a b k p
theorem rp_row {W : Web} {a b : Nat} {p : Nat × Nat} : Rp W a b p ↔ ∃ row, go W a row = some p.1 ∧ go W b row = some p.2 := by
  constructor
  · intro ⟨k, h⟩
    obtain ⟨row, _, h1, h2⟩ := lv_go2.mp h.1
    exact ⟨row, h1, h2⟩
  · intro ⟨row, h1, h2⟩
    obtain ⟨j, _, h⟩ := Lv.md (lv_go2.mpr ⟨row, rfl, h1, h2⟩ : Lv (Sq W) (a, b) row.length p)
    exact ⟨j, h⟩
theorem rp_self {W : Web} {a b : Nat} : Rp W a b (a, b) := ⟨0, Md.zero⟩
theorem lv_lt {W : Web} (ok : Ok W) {a b : Nat} (ha : a < W.length) (hb : b < W.length) {k : Nat} {p : Nat × Nat} (h : Lv (Sq W) (a, b) k p) : p.1 < W.length ∧ p.2 < W.length := by
  obtain ⟨row, _, h1, h2⟩ := lv_go2.mp h
  exact ⟨go_lt ok row _ _ ha h1, go_lt ok row _ _ hb h2⟩
theorem rp_lt {W : Web} (ok : Ok W) {a b : Nat} (ha : a < W.length) (hb : b < W.length) {p : Nat × Nat} (h : Rp W a b p) : p.1 < W.length ∧ p.2 < W.length := by
  obtain ⟨k, h⟩ := h
  exact lv_lt ok ha hb h.1
theorem lv_alike {W : Web} {a b : Nat} (al : Alike W a b) {k : Nat} {p : Nat × Nat} (h : Lv (Sq W) (a, b) k p) : Alike W p.1 p.2 := by
  obtain ⟨row, _, h1, h2⟩ := lv_go2.mp h
  obtain ⟨b', h3, h4⟩ := al.go row h1
  rw [h2] at h3
  cases h3
  exact h4
theorem rp_alike {W : Web} {a b : Nat} (al : Alike W a b) {p : Nat × Nat} (h : Rp W a b p) : Alike W p.1 p.2 := by
  obtain ⟨k, h⟩ := h
  exact lv_alike al h.1
/-- all pairs of rooms -/
def sq (n : Nat) : List (Nat × Nat) := (List.range n).flatMap fun i => (List.range n).map fun j => (i, j)
theorem mem_sq {n : Nat} {p : Nat × Nat} : p ∈ sq n ↔ p.1 < n ∧ p.2 < n := by
  unfold sq
  rw [List.mem_flatMap]
  constructor
  · intro ⟨i, hi, h⟩
    obtain ⟨j, hj, e⟩ := List.mem_map.mp h
    rw [← e]
    exact ⟨List.mem_range.mp hi, List.mem_range.mp hj⟩
  · intro ⟨h1, h2⟩
    exact ⟨p.1, List.mem_range.mpr h1, List.mem_map.mpr ⟨p.2, List.mem_range.mpr h2, rfl⟩⟩
theorem sum_const (c : Nat) : ∀ l : List Nat, (∀ x ∈ l, x = c) → l.sum = l.length * c
  | [], _ => by simp
  | x :: r, h => by
    rw [List.sum_cons, sum_const c r fun y hy => h y (List.mem_cons_of_mem _ hy), h x List.mem_cons_self, List.length_cons, Nat.succ_mul]
    omega
theorem len_sq (n : Nat) : (sq n).length = n * n := by
  unfold sq
  rw [List.length_flatMap, sum_const n]
  · rw [List.length_map, List.length_range]
  · intro x hx
    obtain ⟨i, _, e⟩ := List.mem_map.mp hx
    rw [← e, List.length_map, List.length_range]
/-! ### near: how far apart, at which least level -/
noncomputable def pd (W : Web) (p : Nat × Nat) : Nat := dist W p.1 p.2
structure Nr (W : Web) (a b : Nat) (k j : Nat) : Prop where
  at_ : ∃ p, Pl W a b j p ∧ pd W p = k
  least : ∀ i p, Pl W a b i p → pd W p = k → j ≤ i
theorem Nr.uniq {W : Web} {a b k i j : Nat} (x : Nr W a b k i) (y : Nr W a b k j) : i = j := by
  obtain ⟨p, h1, h2⟩ := x.at_
  obtain ⟨q, h3, h4⟩ := y.at_
  exact Nat.le_antisymm (x.least j q h3 h4) (y.least i p h1 h2)
theorem nr_ex {W : Web} {a b : Nat} {p : Nat × Nat} (h : Rp W a b p) : ∃ j, Nr W a b (pd W p) j := by
  obtain ⟨k, h⟩ := h
  obtain ⟨j, _, ⟨q, h2, h3⟩, h4⟩ := least (p := fun j => ∃ q, Pl W a b j q ∧ pd W q = pd W p) (n := k) ⟨p, h, rfl⟩
  refine ⟨j, ⟨q, h2, h3⟩, fun i q' h5 h6 => ?_⟩
  by_cases c : j ≤ i
  · exact c
  · exact absurd ⟨q', h5, h6⟩ (h4 i (by omega))
theorem Nr.rp {W : Web} {a b k j : Nat} (x : Nr W a b k j) : ∃ p, Rp W a b p ∧ pd W p = k := by
  obtain ⟨p, h1, h2⟩ := x.at_
  exact ⟨p, ⟨j, h1⟩, h2⟩
/-- shrink: the least distance that can be come to -/
structure Shr (W : Web) (a b k : Nat) : Prop where
  at_ : ∃ p, Rp W a b p ∧ pd W p = k
  least : ∀ p, Rp W a b p → k ≤ pd W p
theorem Shr.uniq {W : Web} {a b i j : Nat} (x : Shr W a b i) (y : Shr W a b j) : i = j := by
  obtain ⟨p, h1, h2⟩ := x.at_
  obtain ⟨q, h3, h4⟩ := y.at_
  have := x.least q h3
  have := y.least p h1
  omega
theorem shr_ex (W : Web) (a b : Nat) : ∃ k, Shr W a b k := by
  obtain ⟨k, _, ⟨p, h1, h2⟩, h3⟩ := K2.least (p := fun k => ∃ p, Rp W a b p ∧ pd W p = k) (n := pd W (a, b)) ⟨(a, b), rp_self, rfl⟩
  refine ⟨k, ⟨p, h1, h2⟩, fun q hq => ?_⟩
  by_cases c : k ≤ pd W q
  · exact c
  · exact absurd ⟨q, hq, rfl⟩ (h3 (pd W q) (by omega))
noncomputable def shr (W : Web) (a b : Nat) : Nat := Classical.choose (shr_ex W a b)
theorem shr_is (W : Web) (a b : Nat) : Shr W a b (shr W a b) := Classical.choose_spec (shr_ex W a b)
theorem shr_of {W : Web} {a b k : Nat} (h : Shr W a b k) : shr W a b = k := (shr_is W a b).uniq h
theorem srl_ex (W : Web) (a b : Nat) : ∃ j, Nr W a b (shr W a b) j := by
  obtain ⟨p, h1, h2⟩ := (shr_is W a b).at_
  obtain ⟨j, h⟩ := nr_ex h1
  rw [h2] at h
  exact ⟨j, h⟩
noncomputable def srl (W : Web) (a b : Nat) : Nat := Classical.choose (srl_ex W a b)
theorem srl_is (W : Web) (a b : Nat) : Nr W a b (shr W a b) (srl W a b) := Classical.choose_spec (srl_ex W a b)
theorem srl_of {W : Web} {a b j : Nat} (h : Nr W a b (shr W a b) j) : srl W a b = j := (srl_is W a b).uniq h
open Classical in
noncomputable def ldl (W : Web) (a b : Nat) : Nat := if Alike W a b then shr W a b else 0
theorem ldl_yes {W : Web} {a b : Nat} (h : Alike W a b) : ldl W a b = shr W a b := by unfold ldl; rw [if_pos h]
theorem ldl_no {W : Web} {a b : Nat} (h : ¬ Alike W a b) : ldl W a b = 0 := by unfold ldl; rw [if_neg h]
/-- the first of each key, its level least -/
structure Nb {β : Type} (key lev : β → Nat) (pre : List β) (ns : List (Nat × β)) : Prop where
  nd : (ns.map Prod.fst).Nodup
  at_ : ∀ k e, (k, e) ∈ ns → e ∈ pre ∧ key e = k ∧ ∀ e', e' ∈ pre → key e' = k → lev e ≤ lev e'
  all : ∀ e, e ∈ pre → key e ∈ ns.map Prod.fst
theorem Nb.nil {β : Type} {key lev : β → Nat} : Nb key lev [] [] := ⟨by simp, fun _ _ h => absurd h (by simp), fun _ h => absurd h (by simp)⟩
theorem Nb.old {β : Type} {key lev : β → Nat} {pre : List β} {ns : List (Nat × β)} (x : Nb key lev pre ns) {e : β} (ho : ∀ e', e' ∈ pre → lev e' ≤ lev e) (h : key e ∈ ns.map Prod.fst) : Nb key lev (pre ++ [e]) ns := by
  refine ⟨x.nd, fun k e0 h0 => ?_, fun e0 h0 => ?_⟩
  · obtain ⟨h1, h2, h3⟩ := x.at_ k e0 h0
    refine ⟨List.mem_append_left _ h1, h2, fun e' h' hk => ?_⟩
    rcases List.mem_append.mp h' with h' | h'
    · exact h3 e' h' hk
    · rw [List.mem_singleton.mp h']; exact ho e0 h1
  · rcases List.mem_append.mp h0 with h0 | h0
    · exact x.all e0 h0
    · rw [List.mem_singleton.mp h0]; exact h
theorem Nb.new {β : Type} {key lev : β → Nat} {pre : List β} {ns : List (Nat × β)} (x : Nb key lev pre ns) {e : β} (h : key e ∉ ns.map Prod.fst) : Nb key lev (pre ++ [e]) (ns ++ [(key e, e)]) := by
  refine ⟨?_, fun k e0 h0 => ?_, fun e0 h0 => ?_⟩
  · rw [List.map_append, List.nodup_append]
    refine ⟨x.nd, by simp, fun a ha c hc => ?_⟩
    have e1 : c = key e := by simpa using hc
    rw [e1]
    exact fun e2 => h (e2 ▸ ha)
  · rcases List.mem_append.mp h0 with h0 | h0
    · obtain ⟨h1, h2, h3⟩ := x.at_ k e0 h0
      refine ⟨List.mem_append_left _ h1, h2, fun e' h' hk => ?_⟩
      rcases List.mem_append.mp h' with h' | h'
      · exact h3 e' h' hk
      · rw [List.mem_singleton.mp h'] at hk
        refine absurd ?_ h
        rw [hk]
        exact List.mem_map.mpr ⟨(k, e0), h0, rfl⟩
    · have e2 := List.mem_singleton.mp h0
      injection e2 with e3 e4
      subst e3; subst e4
      refine ⟨List.mem_append_right _ (List.mem_singleton.mpr rfl), rfl, fun e' h' hk => ?_⟩
      rcases List.mem_append.mp h' with h' | h'
      · refine absurd ?_ h
        rw [← hk]
        exact x.all e' h'
      · rw [List.mem_singleton.mp h']; exact Nat.le_refl _
  · rw [List.map_append, List.mem_append]
    rcases List.mem_append.mp h0 with h0 | h0
    · exact .inl (x.all e0 h0)
    · rw [List.mem_singleton.mp h0]; exact .inr (by simp)
/-- the whole: near -/
theorem Nb.nr {β : Type} {W : Web} {a b : Nat} {pr : β → Nat × Nat} {lev : β → Nat} {all : List β} {ns : List (Nat × β)} (x : Nb (fun e => pd W (pr e)) lev all ns) (hs : ∀ e, e ∈ all → Pl W a b (lev e) (pr e))
    (hc : ∀ k p, Pl W a b k p → ∃ e, e ∈ all ∧ pr e = p) : (∀ k e, (k, e) ∈ ns → Nr W a b k (lev e)) ∧ ∀ k, k ∈ ns.map Prod.fst ↔ ∃ p, Rp W a b p ∧ pd W p = k := by
  refine ⟨fun k e h => ?_, fun k => ⟨fun h => ?_, fun ⟨p, ⟨i, h1⟩, h2⟩ => ?_⟩⟩
  · obtain ⟨h1, h2, h3⟩ := x.at_ k e h
    refine ⟨⟨pr e, hs e h1, h2⟩, fun i p h4 h5 => ?_⟩
    obtain ⟨e', h6, h7⟩ := hc i p h4
    have h8 := h3 e' h6 (by show pd W (pr e') = k; rw [h7]; exact h5)
    have h9 := hs e' h6
    rw [h7] at h9
    rw [h4.uniq h9]
    exact h8
  · obtain ⟨⟨k', e⟩, h1, h2⟩ := List.mem_map.mp h
    have h3 : k' = k := h2
    subst h3
    obtain ⟨h4, h5, _⟩ := x.at_ k' e h1
    exact ⟨pr e, ⟨_, hs e h4⟩, h5⟩
  · obtain ⟨e, h3, h4⟩ := hc i p h1
    have := x.all e h3
    have h5 : pd W (pr e) = k := by rw [h4]; exact h2
    rw [← h5]; exact this
/-- what bars -/
structure Bars (W : Web) (a b dl : Nat) (l : List (Nat × Nat)) : Prop where
  own : (a, b) ∈ l
  deg : ∀ p, p ∈ l → deg W p.1 = deg W p.2
  far : ∀ p, p ∈ l → dl < pd W p
  step : ∀ p d t1 b1 t2 b2, p ∈ l → door W p.1 d = some (t1, b1) → door W p.2 d = some (t2, b2) → b1 = b2 ∧ (t1, t2) ∈ l
theorem bars_all {W : Web} {a b dl : Nat} {l : List (Nat × Nat)} (al : Alike W a b) (h : dl < shr W a b) (hl : ∀ p, p ∈ l ↔ Rp W a b p) : Bars W a b dl l where
  own := (hl _).mpr rp_self
  deg := fun p hp => alike_sim.deg _ _ (rp_alike al ((hl p).mp hp))
  far := fun p hp => Nat.lt_of_lt_of_le h ((shr_is W a b).least p ((hl p).mp hp))
  step := fun p d t1 b1 t2 b2 hp h1 h2 => by
    have r := (hl p).mp hp
    refine ⟨(alike_sim.step _ _ d t1 b1 t2 b2 (rp_alike al r) h1 h2).1, (hl _).mpr ?_⟩
    obtain ⟨row, g1, g2⟩ := rp_row.mp r
    exact rp_row.mpr ⟨row ++ [d], go_snoc g1 h1, go_snoc g2 h2⟩
end K2
/-! M3: lots by refinement; the pairs that are not alike, by turns. -/
namespace K2
/-- how many unlike numbers -/
def Cn (l : List Nat) (c : Nat) : Prop := ∃ m : List Nat, m.Nodup ∧ (∀ x, x ∈ m ↔ x ∈ l) ∧ m.length = c
theorem Cn.le {l : List Nat} {c : Nat} (h : Cn l c) : c ≤ l.length := by
  obtain ⟨m, h1, h2, h3⟩ := h
  rw [← h3]
  exact nd_le m l h1 fun x hx => (h2 x).mp hx
theorem Cn.pos {l : List Nat} {c : Nat} (h : Cn l c) (hl : 0 < l.length) : 0 < c := by
  obtain ⟨m, h1, h2, h3⟩ := h
  obtain ⟨x, hx⟩ := List.exists_mem_of_length_pos hl
  rw [← h3]
  exact List.length_pos_of_mem ((h2 x).mpr hx)
/-- a list as long as one without doubles that lies in it has no doubles -/
theorem nd_of_le {α : Type} [DecidableEq α] {m g : List α} (hm : m.Nodup) (hs : ∀ x, x ∈ m → x ∈ g) (hl : g.length ≤ m.length) {i j : Nat} (hij : i < j) {x : α} (h1 : g[i]? = some x) (h2 : g[j]? = some x) : False := by
  have hj := lt_of_get h2
  have h := nd_le m (g.eraseIdx j) hm fun y hy => by
    obtain ⟨k, hk, e⟩ := get_of_mem (hs y hy)
    by_cases c : k = j
    · subst c
      rw [h2] at e
      cases e
      exact List.mem_of_getElem? (i := i) (by rw [List.getElem?_eraseIdx, if_pos hij]; exact h1)
    · by_cases c2 : k < j
      · exact List.mem_of_getElem? (i := k) (by rw [List.getElem?_eraseIdx, if_pos c2]; exact e)
      · exact List.mem_of_getElem? (i := k - 1) (by rw [List.getElem?_eraseIdx, if_neg (by omega), show k - 1 + 1 = k by omega]; exact e)
  rw [List.length_eraseIdx, if_pos hj] at h
  omega
/-- l' refines l -/
theorem cn_refine {n : Nat} {l l' : List Nat} (hl : l.length = n) (hl' : l'.length = n) {c c' : Nat} (h : Cn l c) (h' : Cn l' c') (hr : ∀ a b, a < n → b < n → l'.getD a 0 = l'.getD b 0 → l.getD a 0 = l.getD b 0) (hc : c' ≤ c) :
    ∀ a b, a < n → b < n → l.getD a 0 = l.getD b 0 → l'.getD a 0 = l'.getD b 0 := by
  obtain ⟨m, m1, m2, m3⟩ := h
  obtain ⟨m', n1, n2, n3⟩ := h'
  have getD_of : ∀ (l : List Nat) (i : Nat) x, l[i]? = some x → l.getD i 0 = x := fun l i x e => by rw [List.getD_eq_getElem?_getD, e]; rfl
  have at_ : ∀ (l : List Nat) (i : Nat), i < l.length → l[i]? = some (l.getD i 0) := fun l i h => by
    obtain ⟨x, e⟩ := get_of_lt h
    rw [getD_of l i x e, e]
  -- of each number of l' the number of l at its first place
  let f : Nat → Nat := fun v => l.getD (l'.idxOf v) 0
  have hf : ∀ a, a < n → f (l'.getD a 0) = l.getD a 0 := fun a ha => by
    have hm : l'.getD a 0 ∈ l' := mem_of_get (at_ l' a (by omega))
    have hi : l'.idxOf (l'.getD a 0) < l'.length := List.idxOf_lt_length_of_mem hm
    refine hr _ _ (by omega) ha ?_
    rw [getD_of l' _ (l'.getD a 0)]
    rw [List.getElem?_eq_getElem hi, List.getElem_idxOf]
  have hs : ∀ x, x ∈ m → x ∈ m'.map f := fun x hx => by
    obtain ⟨i, hi, e⟩ := get_of_mem ((m2 x).mp hx)
    refine List.mem_map.mpr ⟨l'.getD i 0, (n2 _).mpr (mem_of_get (at_ l' i (by omega))), ?_⟩
    rw [hf i (by omega), getD_of l i x e]
  intro a b ha hb hab
  have ia := (n2 _).mpr (mem_of_get (at_ l' a (by omega)))
  have ib := (n2 _).mpr (mem_of_get (at_ l' b (by omega)))
  obtain ⟨i, hi, ei⟩ := get_of_mem ia
  obtain ⟨j, hj, ej⟩ := get_of_mem ib
  have ki : (m'.map f)[i]? = some (l.getD a 0) := by rw [List.getElem?_map, ei]; exact congrArg some (hf a ha)
  have kj : (m'.map f)[j]? = some (l.getD a 0) := by rw [List.getElem?_map, ej, hab]; exact congrArg some (hf b hb)
  have hlen : (m'.map f).length ≤ m.length := by rw [List.length_map]; omega
  rcases Nat.lt_trichotomy i j with q | q | q
  · exact (nd_of_le m1 hs hlen q ki kj).elim
  · subst q
    rw [ei] at ej
    exact Option.some.inj ej
  · exact (nd_of_le m1 hs hlen q kj ki).elim
abbrev Sig := Nat × List (Nat × Nat)
def sig (W : Web) (l : List Nat) (r : Nat) : Sig := (l.getD r 0, (W.getD r []).map fun p => (p.2, l.getD p.1 0))
structure Rf (W : Web) (prev l : List Nat) : Prop where
  len : l.length = W.length
  eq : ∀ a b, a < W.length → b < W.length → (l.getD a 0 = l.getD b 0 ↔ sig W prev a = sig W prev b)
theorem getD_door {W : Web} {r d : Nat} {p : Nat × Nat} (h : door W r d = some p) : (W.getD r [])[d]? = some p := by
  unfold door at h
  rw [List.getD_eq_getElem?_getD]
  cases e : W[r]? with
  | none => rw [e] at h; cases h
  | some ds => rw [e] at h; exact h
theorem sig_step {W : Web} {l : List Nat} {a b d t1 b1 t2 b2 : Nat} (h : sig W l a = sig W l b) (h1 : door W a d = some (t1, b1)) (h2 : door W b d = some (t2, b2)) : b1 = b2 ∧ l.getD t1 0 = l.getD t2 0 := by
  have e := congrArg Prod.snd h
  have e1 : ((W.getD a []).map fun p => (p.2, l.getD p.1 0))[d]? = ((W.getD b []).map fun p => (p.2, l.getD p.1 0))[d]? := congrArg (fun z : List (Nat × Nat) => z[d]?) e
  rw [List.getElem?_map, List.getElem?_map, getD_door h1, getD_door h2] at e1
  have e2 := Option.some.inj e1
  exact ⟨congrArg Prod.fst e2, congrArg Prod.snd e2⟩
theorem sig_of {W : Web} {l : List Nat} {a b : Nat} (h0 : l.getD a 0 = l.getD b 0) (hd : deg W a = deg W b) (h : ∀ d t1 b1 t2 b2, door W a d = some (t1, b1) → door W b d = some (t2, b2) → b1 = b2 ∧ l.getD t1 0 = l.getD t2 0) : sig W l a = sig W l b := by
  unfold sig
  rw [h0]
  refine congrArg _ (List.ext_getElem? fun d => ?_)
  rw [List.getElem?_map, List.getElem?_map]
  by_cases c : d < deg W a
  · obtain ⟨⟨t1, b1⟩, e1⟩ := door_of_lt c
    obtain ⟨⟨t2, b2⟩, e2⟩ := door_of_lt (W := W) (r := b) (d := d) (by omega)
    obtain ⟨h1, h2⟩ := h d t1 b1 t2 b2 e1 e2
    rw [getD_door e1, getD_door e2]
    show some (b1, l.getD t1 0) = some (b2, l.getD t2 0)
    rw [h1, h2]
  · rw [List.getElem?_eq_none (by unfold deg at c; omega), List.getElem?_eq_none (by unfold deg at c hd; omega)]
/-- between two turns of lots_of -/
structure Li (W : Web) (l : List Nat) (c : Nat) : Prop where
  len : l.length = W.length
  al : ∀ a b, a < W.length → b < W.length → Alike W a b → l.getD a 0 = l.getD b 0
  dg : ∀ a b, a < W.length → b < W.length → l.getD a 0 = l.getD b 0 → deg W a = deg W b
  pv : c = 0 ∨ ∃ prev, prev.length = W.length ∧ Cn prev c ∧ Rf W prev l
theorem deg_get {W : Web} {a : Nat} (h : a < W.length) : (W.map List.length).getD a 0 = deg W a := by
  obtain ⟨ds, e⟩ := get_of_lt h
  rw [List.getD_eq_getElem?_getD, List.getElem?_map, e, deg_at e]; rfl
theorem Li.start {W : Web} : Li W (W.map List.length) 0 where
  len := by rw [List.length_map]
  al := fun a b ha hb h => by rw [deg_get ha, deg_get hb]; exact alike_sim.deg a b h
  dg := fun a b ha hb h => by rw [deg_get ha, deg_get hb] at h; exact h
  pv := .inl rfl
theorem Li.next {W : Web} (ok : Ok W) {l l' : List Nat} {c c' : Nat} (h : Li W l c) (hc : Cn l c') (hr : Rf W l l') : Li W l' c' where
  len := hr.len
  al := fun a b ha hb al => by
    refine (hr.eq a b ha hb).mpr (sig_of (h.al a b ha hb al) (alike_sim.deg a b al) fun d t1 b1 t2 b2 h1 h2 => ?_)
    obtain ⟨e1, e2⟩ := alike_sim.step a b d t1 b1 t2 b2 al h1 h2
    exact ⟨e1, h.al t1 t2 (ok.to h1) (ok.to h2) e2⟩
  dg := fun a b ha hb e => h.dg a b ha hb (congrArg Prod.fst ((hr.eq a b ha hb).mp e))
  pv := .inr ⟨l, h.len, hc, hr⟩
theorem Li.fin {W : Web} (ok : Ok W) {l : List Nat} {c c' : Nat} (h : Li W l c) (hc : Cn l c') (hle : c' ≤ c) : ∀ a b, a < W.length → b < W.length → (l.getD a 0 = l.getD b 0 ↔ Alike W a b) := by
  have hp : 0 < c' := hc.pos (by rw [h.len]; have := ok.n2; omega)
  obtain ⟨prev, p1, p2, p3⟩ : ∃ prev : List Nat, prev.length = W.length ∧ Cn prev c ∧ Rf W prev l := by
    rcases h.pv with e | e
    · omega
    · exact e
  have back := cn_refine (n := W.length) p1 h.len p2 hc (fun a b ha hb e => congrArg Prod.fst ((p3.eq a b ha hb).mp e)) hle
  intro a b ha hb
  refine ⟨fun e => ⟨fun x y => x < W.length ∧ y < W.length ∧ l.getD x 0 = l.getD y 0, ⟨fun x y ⟨hx, hy, e⟩ => h.dg x y hx hy e, fun x y d t1 b1 t2 b2 ⟨hx, hy, e⟩ h1 h2 => ?_⟩, ha, hb, e⟩, h.al a b ha hb⟩
  obtain ⟨e1, e2⟩ := sig_step ((p3.eq x y hx hy).mp e) h1 h2
  exact ⟨e1, ok.to h1, ok.to h2, back t1 t2 (ok.to h1) (ok.to h2) e2⟩
/-! ### unlike pairs -/
def Uld (W : Web) (F : Nat × Nat → Prop) (a b i : Nat) : Prop := deg W a ≠ deg W b ∨ ∃ d t1 b1 t2 b2, d < i ∧ door W a d = some (t1, b1) ∧ door W b d = some (t2, b2) ∧ (b1 ≠ b2 ∨ F (t1, t2))
def Ul (W : Web) (F : Nat × Nat → Prop) (a b : Nat) : Prop := Uld W F a b (min (deg W a) (deg W b))
theorem Uld.zero {W : Web} {F : Nat × Nat → Prop} {a b : Nat} : Uld W F a b 0 ↔ deg W a ≠ deg W b :=
  ⟨fun h => by rcases h with h | ⟨_, _, _, _, _, h, _⟩; exact h; omega, .inl⟩
theorem Uld.succ {W : Web} {F : Nat × Nat → Prop} {a b i t1 b1 t2 b2 : Nat} (h1 : door W a i = some (t1, b1)) (h2 : door W b i = some (t2, b2)) : Uld W F a b (i + 1) ↔ (Uld W F a b i ∨ b1 ≠ b2 ∨ F (t1, t2)) := by
  constructor
  · intro h
    rcases h with h | ⟨d, x1, y1, x2, y2, hd, k1, k2, k3⟩
    · exact .inl (.inl h)
    · by_cases c : d = i
      · subst c
        rw [h1] at k1; rw [h2] at k2
        cases k1; cases k2
        exact .inr k3
      · exact .inl (.inr ⟨d, x1, y1, x2, y2, by omega, k1, k2, k3⟩)
  · intro h
    rcases h with (h | ⟨d, x1, y1, x2, y2, hd, k⟩) | h
    · exact .inl h
    · exact .inr ⟨d, x1, y1, x2, y2, by omega, k⟩
    · exact .inr ⟨i, t1, b1, t2, b2, by omega, h1, h2, h⟩
structure Us (W : Web) (F : List (Nat × Nat)) : Prop where
  nd : F.Nodup
  ul : ∀ p, p ∈ F → p.1 < W.length ∧ p.2 < W.length ∧ ¬ Alike W p.1 p.2
def Closed (W : Web) (F : List (Nat × Nat)) : Prop := ∀ a b, a < W.length → b < W.length → Ul W (· ∈ F) a b → (a, b) ∈ F
theorem Us.sound {W : Web} {F : List (Nat × Nat)} (u : Us W F) {a b : Nat} (h : Ul W (· ∈ F) a b) : ¬ Alike W a b := fun al => by
  rcases h with h | ⟨d, t1, b1, t2, b2, _, h1, h2, h3⟩
  · exact h (alike_sim.deg a b al)
  · obtain ⟨e1, e2⟩ := alike_sim.step a b d t1 b1 t2 b2 al h1 h2
    rcases h3 with h3 | h3
    · exact h3 e1
    · exact (u.ul _ h3).2.2 e2
theorem Closed.alike {W : Web} (ok : Ok W) {F : List (Nat × Nat)} (c : Closed W F) {a b : Nat} (ha : a < W.length) (hb : b < W.length) (h : (a, b) ∉ F) : Alike W a b := by
  refine ⟨fun x y => x < W.length ∧ y < W.length ∧ (x, y) ∉ F, ⟨fun x y ⟨hx, hy, hn⟩ => ?_, fun x y d t1 b1 t2 b2 ⟨hx, hy, hn⟩ h1 h2 => ?_⟩, ha, hb, h⟩
  · by_cases e : deg W x = deg W y
    · exact e
    · exact absurd (c x y hx hy (.inl e)) hn
  · have hd : d < min (deg W x) (deg W y) := by
      have := (door_lt h1).2
      have := (door_lt h2).2
      omega
    refine ⟨?_, ok.to h1, ok.to h2, fun hf => hn (c x y hx hy (.inr ⟨d, t1, b1, t2, b2, hd, h1, h2, .inr hf⟩))⟩
    by_cases e : b1 = b2
    · exact e
    · exact absurd (c x y hx hy (.inr ⟨d, t1, b1, t2, b2, hd, h1, h2, .inl e⟩)) hn
/-- within a turn: P has been looked at, from F0 on -/
structure Uv (W : Web) (F0 F : List (Nat × Nat)) (P : Nat → Nat → Prop) : Prop where
  us : Us W F
  or : (F = F0 ∧ ∀ a b, P a b → Ul W (· ∈ F0) a b → (a, b) ∈ F0) ∨ F0.length < F.length
theorem Uv.start {W : Web} {F : List (Nat × Nat)} (u : Us W F) : Uv W F F (fun _ _ => False) := ⟨u, .inl ⟨rfl, fun _ _ h => h.elim⟩⟩
theorem Uv.weak {W : Web} {F0 F : List (Nat × Nat)} {P P' : Nat → Nat → Prop} (v : Uv W F0 F P) (h : ∀ a b, P' a b → P a b) : Uv W F0 F P' := ⟨v.us, by
  rcases v.or with ⟨e, q⟩ | q
  · exact .inl ⟨e, fun a b hp => q a b (h a b hp)⟩
  · exact .inr q⟩
theorem Uv.skip {W : Web} {F0 F : List (Nat × Nat)} {P : Nat → Nat → Prop} {x y : Nat} (v : Uv W F0 F P) (h : ¬ Ul W (· ∈ F) x y ∨ (x, y) ∈ F) : Uv W F0 F (fun a b => P a b ∨ (a = x ∧ b = y)) := ⟨v.us, by
  rcases v.or with ⟨e, q⟩ | q
  · refine .inl ⟨e, fun a b hp hu => ?_⟩
    rcases hp with hp | ⟨e1, e2⟩
    · exact q a b hp hu
    · subst e1; subst e2; subst e
      rcases h with h | h
      · exact absurd hu h
      · exact h
  · exact .inr q⟩
theorem Uv.add {W : Web} {F0 F : List (Nat × Nat)} {P : Nat → Nat → Prop} {x y : Nat} (v : Uv W F0 F P) (hx : x < W.length) (hy : y < W.length) (h : Ul W (· ∈ F) x y) (hn : (x, y) ∉ F) : Uv W F0 (F ++ [(x, y)]) (fun a b => P a b ∨ (a = x ∧ b = y)) := by
  refine ⟨⟨?_, fun p hp => ?_⟩, .inr ?_⟩
  · rw [List.nodup_append]
    refine ⟨v.us.nd, by simp, fun a ha c hc => ?_⟩
    rw [List.mem_singleton.mp hc]
    exact fun e => hn (e ▸ ha)
  · rcases List.mem_append.mp hp with hp | hp
    · exact v.us.ul p hp
    · rw [List.mem_singleton.mp hp]
      exact ⟨hx, hy, v.us.sound h⟩
  · rw [List.length_append, List.length_singleton]
    rcases v.or with ⟨e, _⟩ | q
    · rw [e]; omega
    · omega
structure Uo (W : Web) (t : Nat) (F : List (Nat × Nat)) : Prop where
  us : Us W F
  or : Closed W F ∨ t ≤ F.length
theorem Uo.start {W : Web} : Uo W 0 [] := ⟨⟨by simp, fun _ h => absurd h (by simp)⟩, .inr (Nat.zero_le _)⟩
theorem Uv.done {W : Web} (ok : Ok W) {t : Nat} {F0 F : List (Nat × Nat)} {P : Nat → Nat → Prop} (o : Uo W t F0) (v : Uv W F0 F P) (h : ∀ a b, a < W.length → b < W.length → P a b) : Uo W (t + 1) F := ⟨v.us, by
  rcases v.or with ⟨e, q⟩ | q
  · subst e
    exact .inl fun a b ha hb hu => q a b (h a b ha hb) hu
  · rcases o.or with c | c
    · -- closed, and yet one more: not so
      refine .inr ?_
      have h1 : F.length ≤ F0.length := nd_le F F0 v.us.nd fun p hp => by
        by_cases m : p ∈ F0
        · exact m
        · exact absurd (c.alike ok (v.us.ul p hp).1 (v.us.ul p hp).2.1 m) (v.us.ul p hp).2.2
      omega
    · exact .inr (by omega)⟩
theorem Uo.fin {W : Web} (ok : Ok W) {F : List (Nat × Nat)} (o : Uo W (W.length * W.length) F) {a b : Nat} (ha : a < W.length) (hb : b < W.length) : (a, b) ∈ F ↔ ¬ Alike W a b := by
  have cl : Closed W F := by
    rcases o.or with c | c
    · exact c
    · exfalso
      have h1 := nd_all (l := F) (m := sq W.length) o.us.nd (fun p hp => mem_sq.mpr ⟨(o.us.ul p hp).1, (o.us.ul p hp).2.1⟩) (by rw [len_sq]; exact c)
      have h0 : 0 < W.length := by have := ok.n2; omega
      exact (o.us.ul _ (h1 (0, 0) (mem_sq.mpr ⟨h0, h0⟩))).2.2 (Alike.refl 0)
  refine ⟨fun h => (o.us.ul _ h).2.2, fun h => ?_⟩
  by_cases m : (a, b) ∈ F
  · exact m
  · exact absurd (cl.alike ok ha hb m) h
end K2
/-! M4: webs that are drawn are webs: by links, by steps of a ring, by turns. -/
namespace K2
theorem mk_ok {W : Web} (n2 : 2 ≤ W.length) (n7 : W.length ≤ 7) (d4 : ∀ r, r < W.length → deg W r ≤ 4) (back : ∀ r d t b, door W r d = some (t, b) → t ≠ r ∧ door W t b = some (r, d)) (conn : ∀ r, r < W.length → ∃ row, go W 0 row = some r) : Ok W := by
  refine ⟨n2, n7, fun r ds e => ⟨?_, ?_⟩, back, conn⟩
  · have hr := lt_of_get e
    rw [← deg_at e]
    have key : ∃ d p, door W r d = some p := by
      by_cases c : r = 0
      · subst c
        obtain ⟨row, h⟩ := conn 1 (by omega)
        cases row with
        | nil => cases h
        | cons d ds =>
          rw [go_cons] at h
          cases e2 : door W 0 d with
          | none => rw [e2] at h; cases h
          | some p => exact ⟨d, p, e2⟩
      · obtain ⟨row, h⟩ := conn r hr
        have l := lv_go.mpr ⟨row, rfl, h⟩
        cases hk : row.length with
        | zero =>
          rw [hk] at l
          exact absurd (show r = 0 from l) c
        | succ k =>
          rw [hk] at l
          obtain ⟨x, _, d, bk, hd⟩ := l
          exact ⟨bk, _, (back x d r bk hd).2⟩
    obtain ⟨d, p, h⟩ := key
    have := (door_lt h).2
    omega
  · rw [← deg_at e]; exact d4 r (lt_of_get e)
/-! ### a look by reckoning -/
def reach (W : Web) : Nat → List Nat
  | 0 => [0]
  | k + 1 => (reach W k ++ (reach W k).flatMap fun r => (W.getD r []).map Prod.fst).eraseDups
def okB (W : Web) : Bool := decide (2 ≤ W.length) && decide (W.length ≤ 7) && (List.range W.length).all (fun r => decide (deg W r ≤ 4) && (List.range (deg W r)).all fun d => match door W r d with
  | some (t, b) => decide (t ≠ r) && decide (door W t b = some (r, d))
  | none => true) && (List.range W.length).all fun r => (reach W W.length).contains r
theorem reach_go {W : Web} : ∀ (k r : Nat), r ∈ reach W k → ∃ row, go W 0 row = some r
  | 0, r, h => by
    have e : r = 0 := List.mem_singleton.mp h
    exact ⟨[], by rw [e]; rfl⟩
  | k + 1, r, h => by
    have h1 := List.mem_eraseDups.mp h
    rcases List.mem_append.mp h1 with h1 | h1
    · exact reach_go k r h1
    · obtain ⟨x, hx, hr⟩ := List.mem_flatMap.mp h1
      obtain ⟨p, hp, e⟩ := List.mem_map.mp hr
      obtain ⟨row, g⟩ := reach_go k x hx
      obtain ⟨d, _, hd⟩ := get_of_mem hp
      have hdoor : door W x d = some p := by
        unfold door
        rw [List.getD_eq_getElem?_getD] at hd
        cases e2 : W[x]? with
        | none => rw [e2] at hd; simp at hd
        | some ds => rw [e2] at hd; exact hd
      exact ⟨row ++ [d], by rw [← e]; exact go_snoc (b := p.2) g hdoor⟩
theorem okB_ok {W : Web} (h : okB W = true) : Ok W := by
  unfold okB at h
  simp only [Bool.and_eq_true, decide_eq_true_eq] at h
  obtain ⟨⟨⟨h1, h2⟩, h3⟩, h4⟩ := h
  have at_ : ∀ r, r < W.length → _ := fun r hr => List.all_eq_true.mp h3 r (List.mem_range.mpr hr)
  refine mk_ok h1 h2 (fun r hr => ?_) (fun r d t b e => ?_) fun r hr => ?_
  · have q := at_ r hr
    simp only [Bool.and_eq_true, decide_eq_true_eq] at q
    exact q.1
  · have q := at_ r (door_lt e).1
    rw [Bool.and_eq_true] at q
    have q2 := List.all_eq_true.mp q.2 d (List.mem_range.mpr (door_lt e).2)
    rw [e] at q2
    simp only [Bool.and_eq_true, decide_eq_true_eq] at q2
    exact q2
  · have q := List.all_eq_true.mp h4 r (List.mem_range.mpr hr)
    exact reach_go _ r (List.contains_iff_mem.mp q)
/-! ### links -/
def addL (D : Web) (x y : Nat) : Web :=
  let D1 := D.set x (D.getD x [] ++ [(y, (D.getD y []).length)])
  D1.set y (D1.getD y [] ++ [(x, (D1.getD x []).length - 1)])
def linkW (ps : List (Nat × Nat)) (n : Nat) : Web := ps.foldl (fun D p => addL D p.1 p.2) (List.replicate n [])
def cnt (r : Nat) (ps : List (Nat × Nat)) : Nat := ps.countP (fun p => decide (p.1 = r)) + ps.countP (fun p => decide (p.2 = r))
theorem getD_set {D : Web} {x r : Nat} {v : List (Nat × Nat)} (hx : x < D.length) : (D.set x v).getD r [] = if r = x then v else D.getD r [] := by
  rw [List.getD_eq_getElem?_getD, List.getD_eq_getElem?_getD, List.getElem?_set]
  by_cases c : x = r
  · subst c
    rw [if_pos rfl, if_pos rfl, if_pos hx]; rfl
  · rw [if_neg c, if_neg (fun e => c e.symm)]
theorem door_getD {W : Web} {r d : Nat} : door W r d = (W.getD r [])[d]? := by
  unfold door
  rw [List.getD_eq_getElem?_getD]
  cases e : W[r]? with
  | none => simp
  | some ds => rfl
theorem addL_eq {D : Web} {x y : Nat} (hx : x < D.length) (hy : y < D.length) (hxy : x ≠ y) (r : Nat) :
    (addL D x y).getD r [] = if r = x then D.getD x [] ++ [(y, deg D y)] else if r = y then D.getD y [] ++ [(x, deg D x)] else D.getD r [] := by
  unfold addL
  have h2 : y < (D.set x (D.getD x [] ++ [(y, (D.getD y []).length)])).length := by rw [List.length_set]; exact hy
  show ((D.set x _).set y _).getD r [] = _
  rw [getD_set h2, getD_set hx, getD_set hx, getD_set hx]
  by_cases c : r = y
  · subst c
    have c2 : ¬ r = x := fun e => hxy e.symm
    rw [if_pos rfl, if_neg c2, if_pos rfl, if_neg c2, if_pos rfl, List.length_append, List.length_singleton, Nat.add_sub_cancel]; rfl
  · rw [if_neg c]
    by_cases c2 : r = x
    · rw [if_pos c2, if_pos c2]; rfl
    · rw [if_neg c2, if_neg c2, if_neg c]
theorem addL_len {D : Web} {x y : Nat} : (addL D x y).length = D.length := by
  unfold addL
  rw [List.length_set, List.length_set]
theorem get_snoc {α : Type} {l : List α} {v : α} {d : Nat} : (l ++ [v])[d]? = if d = l.length then some v else l[d]? := by
  by_cases c : d < l.length
  · rw [List.getElem?_append_left c, if_neg (by omega)]
  · by_cases c2 : d = l.length
    · rw [if_pos c2, List.getElem?_append_right (by omega), c2, Nat.sub_self]; rfl
    · rw [if_neg c2, List.getElem?_eq_none (by rw [List.length_append, List.length_singleton]; omega), List.getElem?_eq_none (by omega)]
theorem addL_door {D : Web} {x y : Nat} (hx : x < D.length) (hy : y < D.length) (hxy : x ≠ y) (r d : Nat) :
    door (addL D x y) r d = if r = x ∧ d = deg D x then some (y, deg D y) else if r = y ∧ d = deg D y then some (x, deg D x) else door D r d := by
  rw [door_getD, addL_eq hx hy hxy, door_getD]
  by_cases c1 : r = x
  · subst c1
    rw [if_pos rfl, get_snoc, show (D.getD r []).length = deg D r from rfl]
    by_cases c : d = deg D r
    · rw [if_pos c, if_pos ⟨rfl, c⟩]
    · rw [if_neg c, if_neg (fun h => c h.2), if_neg (fun h => hxy h.1)]
  · rw [if_neg c1, if_neg (show ¬ (r = x ∧ d = deg D x) from fun h => c1 h.1)]
    by_cases c2 : r = y
    · subst c2
      rw [if_pos rfl, get_snoc, show (D.getD r []).length = deg D r from rfl]
      by_cases c : d = deg D r
      · rw [if_pos c, if_pos ⟨rfl, c⟩]
      · rw [if_neg c, if_neg (fun h => c h.2)]
    · rw [if_neg c2, if_neg (fun h => c2 h.1)]
theorem addL_deg {D : Web} {x y : Nat} (hx : x < D.length) (hy : y < D.length) (hxy : x ≠ y) (r : Nat) : deg (addL D x y) r = deg D r + (if r = x then 1 else 0) + (if r = y then 1 else 0) := by
  unfold deg
  rw [addL_eq hx hy hxy]
  by_cases c1 : r = x
  · subst c1
    rw [if_pos rfl, if_pos rfl, if_neg hxy, List.length_append]; rfl
  · rw [if_neg c1, if_neg c1]
    by_cases c2 : r = y
    · subst c2
      rw [if_pos rfl, if_pos rfl, List.length_append]; rfl
    · rw [if_neg c2, if_neg c2]; rfl
structure Lk (n : Nat) (ps : List (Nat × Nat)) (D : Web) : Prop where
  len : D.length = n
  back : ∀ r d t b, door D r d = some (t, b) → t ≠ r ∧ door D t b = some (r, d)
  cnt : ∀ r, r < n → deg D r = K2.cnt r ps
  has : ∀ p, p ∈ ps → (∃ d b, door D p.1 d = some (p.2, b)) ∧ ∃ d b, door D p.2 d = some (p.1, b)
theorem Lk.start {n : Nat} : Lk n [] (List.replicate n []) where
  len := List.length_replicate
  back := fun r d t b h => by
    rw [door_getD, List.getD_eq_getElem?_getD, List.getElem?_replicate] at h
    by_cases c : r < n
    · rw [if_pos c] at h; simp at h
    · rw [if_neg c] at h; simp at h
  cnt := fun r hr => by
    unfold deg
    rw [List.getD_eq_getElem?_getD, List.getElem?_replicate, if_pos hr]; rfl
  has := fun p h => absurd h (by simp)
theorem cnt_snoc (r : Nat) (ps : List (Nat × Nat)) (x y : Nat) : K2.cnt r (ps ++ [(x, y)]) = K2.cnt r ps + (if r = x then 1 else 0) + (if r = y then 1 else 0) := by
  unfold cnt
  rw [List.countP_append, List.countP_append, List.countP_singleton, List.countP_singleton]
  have e1 : (if decide ((x, y).1 = r) = true then 1 else 0) = if r = x then 1 else 0 := by
    by_cases c : r = x
    · rw [if_pos c, if_pos (by simp [c])]
    · rw [if_neg c, if_neg (by simp; exact fun e => c e.symm)]
  have e2 : (if decide ((x, y).2 = r) = true then 1 else 0) = if r = y then 1 else 0 := by
    by_cases c : r = y
    · rw [if_pos c, if_pos (by simp [c])]
    · rw [if_neg c, if_neg (by simp; exact fun e => c e.symm)]
  rw [e1, e2]
  omega
theorem Lk.add {n : Nat} {ps : List (Nat × Nat)} {D : Web} (h : Lk n ps D) {x y : Nat} (hx : x < n) (hy : y < n) (hxy : x ≠ y) : Lk n (ps ++ [(x, y)]) (addL D x y) := by
  have hx' : x < D.length := by rw [h.len]; exact hx
  have hy' : y < D.length := by rw [h.len]; exact hy
  have keep : ∀ r d p, door D r d = some p → door (addL D x y) r d = some p := fun r d p e => by
    rw [addL_door hx' hy' hxy]
    have hd := (door_lt e).2
    rw [if_neg (fun q => by obtain ⟨q1, q2⟩ := q; subst q1; omega), if_neg (fun q => by obtain ⟨q1, q2⟩ := q; subst q1; omega)]
    exact e
  have nx : door (addL D x y) x (deg D x) = some (y, deg D y) := by rw [addL_door hx' hy' hxy, if_pos ⟨rfl, rfl⟩]
  have ny : door (addL D x y) y (deg D y) = some (x, deg D x) := by
    rw [addL_door hx' hy' hxy, if_neg (fun q => hxy q.1.symm), if_pos ⟨rfl, rfl⟩]
  refine ⟨by rw [addL_len]; exact h.len, fun r d t b e => ?_, fun r hr => ?_, fun p hp => ?_⟩
  · rw [addL_door hx' hy' hxy] at e
    by_cases c1 : r = x ∧ d = deg D x
    · rw [if_pos c1] at e
      cases e
      obtain ⟨q1, q2⟩ := c1
      subst q1; subst q2
      exact ⟨fun z => hxy z.symm, ny⟩
    · rw [if_neg c1] at e
      by_cases c2 : r = y ∧ d = deg D y
      · rw [if_pos c2] at e
        cases e
        obtain ⟨q1, q2⟩ := c2
        subst q1; subst q2
        exact ⟨hxy, nx⟩
      · rw [if_neg c2] at e
        obtain ⟨h1, h2⟩ := h.back r d t b e
        exact ⟨h1, keep _ _ _ h2⟩
  · rw [addL_deg hx' hy' hxy, cnt_snoc, h.cnt r hr]
  · rcases List.mem_append.mp hp with hp | hp
    · obtain ⟨⟨d, b, h1⟩, d2, b2, h2⟩ := h.has p hp
      exact ⟨⟨d, b, keep _ _ _ h1⟩, d2, b2, keep _ _ _ h2⟩
    · rw [List.mem_singleton.mp hp]
      exact ⟨⟨_, _, nx⟩, _, _, ny⟩
theorem lk_of {n : Nat} : ∀ (qs ps : List (Nat × Nat)) (D : Web), Lk n ps D → (∀ p, p ∈ qs → p.1 < n ∧ p.2 < n ∧ p.1 ≠ p.2) → Lk n (ps ++ qs) (qs.foldl (fun D p => addL D p.1 p.2) D)
  | [], ps, D, h, _ => by rw [List.append_nil]; exact h
  | q :: qs, ps, D, h, hq => by
    obtain ⟨h1, h2, h3⟩ := hq q List.mem_cons_self
    have h4 := lk_of qs (ps ++ [q]) (addL D q.1 q.2) (h.add h1 h2 h3) fun p hp => hq p (List.mem_cons_of_mem _ hp)
    rw [List.append_assoc] at h4
    exact h4
theorem lk_link {n : Nat} {ps : List (Nat × Nat)} (h : ∀ p, p ∈ ps → p.1 < n ∧ p.2 < n ∧ p.1 ≠ p.2) : Lk n ps (linkW ps n) := by
  have := lk_of ps [] (List.replicate n []) Lk.start h
  rwa [List.nil_append] at this
inductive Cl (ps : List (Nat × Nat)) : Nat → Prop
  | zero : Cl ps 0
  | fst {x y : Nat} : (x, y) ∈ ps → Cl ps x → Cl ps y
  | snd {x y : Nat} : (x, y) ∈ ps → Cl ps y → Cl ps x
theorem Cl.go {n : Nat} {ps : List (Nat × Nat)} {D : Web} (h : Lk n ps D) {r : Nat} (c : Cl ps r) : ∃ row, go D 0 row = some r := by
  induction c with
  | zero => exact ⟨[], rfl⟩
  | fst hm _ ih =>
    obtain ⟨row, g⟩ := ih
    obtain ⟨⟨d, b, h1⟩, _⟩ := h.has _ hm
    exact ⟨row ++ [d], go_snoc g h1⟩
  | snd hm _ ih =>
    obtain ⟨row, g⟩ := ih
    obtain ⟨_, d, b, h1⟩ := h.has _ hm
    exact ⟨row ++ [d], go_snoc g h1⟩
theorem link_ok {n : Nat} {ps : List (Nat × Nat)} (n2 : 2 ≤ n) (n7 : n ≤ 7) (h : ∀ p, p ∈ ps → p.1 < n ∧ p.2 < n ∧ p.1 ≠ p.2) (h4 : ∀ r, r < n → K2.cnt r ps ≤ 4) (hc : ∀ r, r < n → Cl ps r) : Ok (linkW ps n) := by
  have L := lk_link h
  have e := L.len
  refine mk_ok (by omega) (by omega) (fun r hr => ?_) L.back fun r hr => (hc r (by omega)).go L
  rw [L.cnt r (by omega)]
  exact h4 r (by omega)
/-! ### a tree and some links more, mixed -/
structure Dr (n k : Nat) (ps : List (Nat × Nat)) (u : List Nat) : Prop where
  ul : u.length = n
  ok : ∀ p, p ∈ ps → p.1 < n ∧ p.2 < n ∧ p.1 ≠ p.2
  cnt : ∀ r, r < n → u.getD r 0 = K2.cnt r ps
  le4 : ∀ r, r < n → u.getD r 0 ≤ 4
  tree : ∀ r, 1 ≤ r → r < k → ∃ x, x < r ∧ (x, r) ∈ ps
theorem Dr.start {n : Nat} : Dr n 1 [] (List.replicate n 0) where
  ul := List.length_replicate
  ok := fun _ h => absurd h (by simp)
  cnt := fun r hr => by rw [List.getD_eq_getElem?_getD, List.getElem?_replicate, if_pos hr]; rfl
  le4 := fun r hr => by rw [List.getD_eq_getElem?_getD, List.getElem?_replicate, if_pos hr]; exact Nat.zero_le _
  tree := fun r h1 h2 => absurd h2 (by omega)
theorem getD_setN {l : List Nat} {x r v : Nat} (hx : x < l.length) : (l.set x v).getD r 0 = if r = x then v else l.getD r 0 := by
  rw [List.getD_eq_getElem?_getD, List.getD_eq_getElem?_getD, List.getElem?_set]
  by_cases c : x = r
  · subst c; rw [if_pos rfl, if_pos rfl, if_pos hx]; rfl
  · rw [if_neg c, if_neg (fun e => c e.symm)]
theorem Dr.link {n k : Nat} {ps : List (Nat × Nat)} {u : List Nat} (h : Dr n k ps u) {x y : Nat} (hx : x < n) (hy : y < n) (hxy : x ≠ y) (ux : u.getD x 0 < 4) (uy : u.getD y 0 < 4) :
    Dr n k (ps ++ [(x, y)]) ((u.set x (u.getD x 0 + 1)).set y (u.getD y 0 + 1)) := by
  have e : ∀ r, ((u.set x (u.getD x 0 + 1)).set y (u.getD y 0 + 1)).getD r 0 = u.getD r 0 + (if r = x then 1 else 0) + (if r = y then 1 else 0) := fun r => by
    rw [getD_setN (by rw [List.length_set, h.ul]; exact hy), getD_setN (by rw [h.ul]; exact hx)]
    by_cases c1 : r = y
    · subst c1
      rw [if_pos rfl, if_pos rfl, if_neg (fun q => hxy q.symm)]
    · rw [if_neg c1, if_neg c1]
      by_cases c2 : r = x
      · subst c2; rw [if_pos rfl, if_pos rfl]
      · rw [if_neg c2, if_neg c2]; rfl
  refine ⟨by rw [List.length_set, List.length_set]; exact h.ul, fun p hp => ?_, fun r hr => ?_, fun r hr => ?_, fun r h1 h2 => ?_⟩
  · rcases List.mem_append.mp hp with hp | hp
    · exact h.ok p hp
    · rw [List.mem_singleton.mp hp]; exact ⟨hx, hy, hxy⟩
  · rw [e, cnt_snoc, h.cnt r hr]
  · rw [e]
    by_cases c1 : r = x
    · subst c1; rw [if_pos rfl, if_neg hxy]; omega
    · rw [if_neg c1]
      by_cases c2 : r = y
      · subst c2; rw [if_pos rfl]; omega
      · rw [if_neg c2]; exact h.le4 r hr
  · obtain ⟨z, h3, h4⟩ := h.tree r h1 h2
    exact ⟨z, h3, List.mem_append_left _ h4⟩
theorem Dr.grow {n k : Nat} {ps : List (Nat × Nat)} {u : List Nat} (h : Dr n k ps u) {x : Nat} (hx : x < k) (hm : (x, k) ∈ ps) : Dr n (k + 1) ps u :=
  ⟨h.ul, h.ok, h.cnt, h.le4, fun r h1 h2 => by
    by_cases c : r = k
    · subst c; exact ⟨x, hx, hm⟩
    · exact h.tree r h1 (by omega)⟩
theorem Dr.ok_ {n k : Nat} {ps : List (Nat × Nat)} {u : List Nat} (h : Dr n k ps u) (hk : n ≤ k) (n2 : 2 ≤ n) (n7 : n ≤ 7) {qs : List (Nat × Nat)} (hp : qs.Perm ps) : Ok (linkW qs n) := by
  refine link_ok n2 n7 (fun p hq => h.ok p (hp.mem_iff.mp hq)) (fun r hr => ?_) fun r hr => ?_
  · have : K2.cnt r qs = K2.cnt r ps := by unfold K2.cnt; rw [hp.countP_eq, hp.countP_eq]
    rw [this, ← h.cnt r hr]
    exact h.le4 r hr
  · induction r using Nat.strongRecOn with
    | ind r ih =>
      by_cases c : r = 0
      · subst c; exact .zero
      · obtain ⟨x, h1, h2⟩ := h.tree r (by omega) (by omega)
        exact .fst (hp.mem_iff.mpr h2) (ih x h1 (by omega))
/-- a room of the first ones has a free door: of few links -/
theorem cnt_sum (k : Nat) : ∀ ps : List (Nat × Nat), ((List.range k).map fun r => K2.cnt r ps).sum ≤ 2 * ps.length
  | [] => by
    rw [sum_const 0]
    · simp
    · intro x hx
      obtain ⟨r, _, e⟩ := List.mem_map.mp hx
      rw [← e]; rfl
  | p :: ps => by
    have ih := cnt_sum k ps
    have one : ∀ (x : Nat) (k : Nat), ((List.range k).map fun r => if x = r then 1 else 0).sum ≤ 1 := fun x k => by
      induction k with
      | zero => simp
      | succ k ihk =>
        rw [List.range_succ, List.map_append, List.sum_append]
        by_cases c : x = k
        · have z : ((List.range k).map fun r => if x = r then 1 else 0).sum = 0 := by
            rw [sum_const 0]
            · simp
            · intro y hy
              obtain ⟨r, hr, e⟩ := List.mem_map.mp hy
              have := List.mem_range.mp hr
              rw [← e, if_neg (by omega)]
          rw [z]; simp [c]
        · simp only [List.map_cons, List.map_nil, List.sum_cons, List.sum_nil, if_neg c]; omega
    have split : ∀ (f g : Nat → Nat) (l : List Nat), (l.map fun r => f r + g r).sum = (l.map f).sum + (l.map g).sum := fun f g l => by
      induction l with
      | nil => rfl
      | cons a r ih => simp only [List.map_cons, List.sum_cons, ih]; omega
    have e : (fun r => K2.cnt r (p :: ps)) = fun r => K2.cnt r ps + ((if p.1 = r then 1 else 0) + (if p.2 = r then 1 else 0)) := by
      funext r
      unfold cnt
      rw [List.countP_cons, List.countP_cons]
      simp only [decide_eq_true_eq]
      omega
    rw [e, split, split, List.length_cons]
    have := one p.1 k
    have := one p.2 k
    omega
theorem free_ex {k : Nat} (hk : 1 ≤ k) {ps : List (Nat × Nat)} (hl : ps.length < k * 2) : ∃ x, x < k ∧ K2.cnt x ps < 4 := by
  by_cases c : ∃ x, x < k ∧ K2.cnt x ps < 4
  · exact c
  · exfalso
    have h := cnt_sum k ps
    have low : ∀ l : List Nat, (∀ x, x ∈ l → 4 ≤ x) → 4 * l.length ≤ l.sum := fun l hl => by
      induction l with
      | nil => simp
      | cons a r ih =>
        have := ih fun x hx => hl x (List.mem_cons_of_mem _ hx)
        have := hl a List.mem_cons_self
        rw [List.sum_cons, List.length_cons]; omega
    have h2 := low ((List.range k).map fun r => K2.cnt r ps) fun x hx => by
      obtain ⟨r, hr, e⟩ := List.mem_map.mp hx
      rw [← e]
      by_cases c2 : 4 ≤ K2.cnt r ps
      · exact c2
      · exact absurd ⟨r, List.mem_range.mp hr, by omega⟩ c
    rw [List.length_map, List.length_range] at h2
    omega
/-! ### two halves -/
def dlinks (m : Nat) (ps : List (Nat × Nat)) : List (Nat × Nat) := ps.flatMap fun p => [(p.1, p.2), (p.1 + m, p.2 + m)]
def dall (m : Nat) (ps : List (Nat × Nat)) (a j : Nat) : List (Nat × Nat) := (dlinks m ps).take (2 * j) ++ [(a, a + m)] ++ (dlinks m ps).drop (2 * j)
theorem dbl_1 : okB (linkW (dall 1 [] 0 0) 2) = true := by decide +kernel
theorem dbl_2 : ((List.range 2).all fun a => (List.range 2).all fun j => okB (linkW (dall 2 [(0, 1)] a j) 4)) = true := by decide +kernel
theorem dbl_3 : ((List.range 2).all fun x => (List.range 3).all fun a => (List.range 3).all fun j => okB (linkW (dall 3 [(0, 1), (x, 2)] a j) 6)) = true := by decide +kernel
theorem dbl_ok {m : Nat} (h1 : 1 ≤ m) (h3 : m ≤ 3) {ps : List (Nat × Nat)} (hl : ps.length = m - 1) (hp : ∀ i p, ps[i]? = some p → p.2 = i + 1 ∧ p.1 < i + 1) {a j : Nat} (ha : a < m) (hj : j ≤ ps.length) : Ok (linkW (dall m ps a j) (2 * m)) := by
  apply okB_ok
  have cases_ : m = 1 ∨ m = 2 ∨ m = 3 := by omega
  rcases cases_ with e | e | e
  · subst e
    have e1 : ps = [] := List.eq_nil_of_length_eq_zero hl
    subst e1
    have e2 : a = 0 := by omega
    have e3 : j = 0 := by simpa using hj
    subst e2; subst e3
    exact dbl_1
  · subst e
    obtain ⟨p, e1⟩ := List.length_eq_one_iff.mp hl
    subst e1
    obtain ⟨q1, q2⟩ := hp 0 p rfl
    obtain ⟨x, y⟩ := p
    have ex : x = 0 := by have : x < 0 + 1 := q2; omega
    have ey : y = 1 := q1
    subst ex; subst ey
    have hj2 : j < 2 := by have : j ≤ 1 := hj; omega
    exact List.all_eq_true.mp (List.all_eq_true.mp dbl_2 a (List.mem_range.mpr ha)) j (List.mem_range.mpr hj2)
  · subst e
    obtain ⟨p, q, e1⟩ : ∃ p q, ps = [p, q] := by
      match ps, hl with
      | [p, q], _ => exact ⟨p, q, rfl⟩
    subst e1
    obtain ⟨q1, q2⟩ := hp 0 p rfl
    obtain ⟨q3, q4⟩ := hp 1 q rfl
    obtain ⟨x, y⟩ := p
    obtain ⟨z, w⟩ := q
    have ex : x = 0 := by have : x < 0 + 1 := q2; omega
    have ey : y = 1 := q1
    have ew : w = 2 := q3
    have hz : z < 2 := q4
    subst ex; subst ey; subst ew
    have hj2 : j < 3 := by have : j ≤ 2 := hj; omega
    exact List.all_eq_true.mp (List.all_eq_true.mp (List.all_eq_true.mp dbl_3 z (List.mem_range.mpr hz)) a (List.mem_range.mpr ha)) j (List.mem_range.mpr hj2)
/-! ### a ring by steps -/
def stp (m r s : Nat) : Nat := if m ≤ r + s then r + s - m else r + s
def cayW (m : Nat) (st : List Nat) : Web := (List.range m).map fun r => st.map fun s => (stp m r s, st.idxOf (m - s))
structure Cy (m : Nat) (st : List Nat) : Prop where
  nd : st.Nodup
  bd : ∀ s, s ∈ st → 1 ≤ s ∧ s < m
  cl : ∀ s, s ∈ st → m - s ∈ st
  one : 1 ∈ st
  l4 : st.length ≤ 4
theorem Cy.perm {m : Nat} {st st' : List Nat} (h : Cy m st) (p : st'.Perm st) : Cy m st' :=
  ⟨p.nodup_iff.mpr h.nd, fun s hs => h.bd s (p.mem_iff.mp hs), fun s hs => p.mem_iff.mpr (h.cl s (p.mem_iff.mp hs)), p.mem_iff.mpr h.one, by rw [p.length_eq]; exact h.l4⟩
theorem cay_door {m : Nat} {st : List Nat} {r i : Nat} (hr : r < m) : door (cayW m st) r i = (st[i]?).map fun s => (stp m r s, st.idxOf (m - s)) := by
  unfold door cayW
  rw [List.getElem?_map, List.getElem?_range hr]
  show (st.map fun s => (stp m r s, st.idxOf (m - s)))[i]? = _
  rw [List.getElem?_map]
theorem idxOf_get {l : List Nat} {x : Nat} (h : x ∈ l) : l[l.idxOf x]? = some x := by
  have hi := List.idxOf_lt_length_of_mem h
  rw [List.getElem?_eq_getElem hi, List.getElem_idxOf]
theorem idxOf_nd {l : List Nat} (h : l.Nodup) {i x : Nat} (e : l[i]? = some x) : l.idxOf x = i := by
  obtain ⟨h1, e1⟩ := List.getElem?_eq_some_iff.mp e
  obtain ⟨h2, e2⟩ := List.getElem?_eq_some_iff.mp (idxOf_get (mem_of_get e))
  exact (List.getElem_inj h).mp (e2.trans e1.symm)
theorem cay_ok {m : Nat} (m2 : 2 ≤ m) (m7 : m ≤ 7) {st : List Nat} (h : Cy m st) : Ok (cayW m st) := by
  have len : (cayW m st).length = m := by unfold cayW; rw [List.length_map, List.length_range]
  refine mk_ok (by omega) (by omega) (fun r hr => ?_) (fun r d t b e => ?_) fun r hr => ?_
  · rw [len] at hr
    have : deg (cayW m st) r = st.length := by
      unfold deg cayW
      rw [List.getD_eq_getElem?_getD, List.getElem?_map, List.getElem?_range hr]
      show (st.map _).length = _
      rw [List.length_map]
    rw [this]; exact h.l4
  · have hr := (door_lt e).1
    rw [len] at hr
    rw [cay_door hr] at e
    cases e1 : st[d]? with
    | none => rw [e1] at e; cases e
    | some s =>
      rw [e1] at e
      have e2 : (stp m r s, st.idxOf (m - s)) = (t, b) := Option.some.inj e
      injection e2 with e3 e4
      have hs := mem_of_get e1
      obtain ⟨s1, s2⟩ := h.bd s hs
      have ht : t < m := by rw [← e3]; unfold stp; split <;> omega
      refine ⟨by rw [← e3]; unfold stp; split <;> omega, ?_⟩
      rw [cay_door ht, ← e4, idxOf_get (h.cl s hs)]
      show some (stp m t (m - s), st.idxOf (m - (m - s))) = some (r, d)
      rw [show m - (m - s) = s by omega, idxOf_nd h.nd e1, ← e3]
      congr 2
      unfold stp
      split <;> split <;> omega
  · rw [len] at hr
    induction r with
    | zero => exact ⟨[], rfl⟩
    | succ r ih =>
      obtain ⟨row, g⟩ := ih (by omega)
      refine ⟨row ++ [st.idxOf 1], go_snoc (b := st.idxOf (m - 1)) g ?_⟩
      rw [cay_door (by omega), idxOf_get h.one]
      show some (stp m r 1, _) = _
      congr 2
      unfold stp
      rw [if_neg (by omega)]
/-! ### turns of all rooms -/
structure Mx (n : Nat) (l : List Nat) : Prop where
  nd : l.Nodup
  len : l.length = n
  lt : ∀ x, x ∈ l → x < n
theorem Mx.of_perm {n : Nat} {l : List Nat} (p : l.Perm (List.range n)) : Mx n l :=
  ⟨p.nodup_iff.mpr List.nodup_range, by rw [p.length_eq, List.length_range], fun x hx => List.mem_range.mp (p.mem_iff.mp hx)⟩
theorem Mx.on {n : Nat} {l : List Nat} (h : Mx n l) {r : Nat} (hr : r < n) : ∃ p, p < n ∧ l[p]? = some r := by
  obtain ⟨p, h1, h2⟩ := get_of_mem (nd_all (l := l) (m := List.range n) h.nd (fun x hx => List.mem_range.mpr (h.lt x hx)) (by rw [List.length_range, h.len]; exact Nat.le_refl _) r (List.mem_range.mpr hr))
  exact ⟨p, by rw [← h.len]; exact h1, h2⟩
theorem Mx.at {n : Nat} {l : List Nat} (h : Mx n l) {p : Nat} (hp : p < n) : l[p]? = some (l.getD p 0) := by
  obtain ⟨x, e⟩ := get_of_lt (l := l) (i := p) (by rw [h.len]; exact hp)
  rw [e, List.getD_eq_getElem?_getD, e]; rfl
theorem Mx.lt' {n : Nat} {l : List Nat} (h : Mx n l) {p : Nat} (hp : p < n) : l.getD p 0 < n := h.lt _ (mem_of_get (h.at hp))
theorem Mx.inj {n : Nat} {l : List Nat} (h : Mx n l) {p q : Nat} (hp : p < n) (hq : q < n) (e : l.getD p 0 = l.getD q 0) : p = q := by
  have h1 := h.at hp
  have h2 := h.at hq
  rw [← e] at h2
  obtain ⟨b1, e1⟩ := List.getElem?_eq_some_iff.mp h1
  obtain ⟨b2, e2⟩ := List.getElem?_eq_some_iff.mp h2
  exact (List.getElem_inj h.nd).mp (e1.trans e2.symm)
/-- th leads the room at place f p, for the first k places p, to that at g p -/
structure Tn (n : Nat) (l : List Nat) (f g : Nat → Nat) (P : Nat → Prop) (th : List Nat) : Prop where
  len : th.length = n
  at_ : ∀ p, p < n → P p → th.getD (l.getD (f p) 0) 0 = l.getD (g p) 0
theorem Tn.start {n : Nat} {l : List Nat} {f g : Nat → Nat} : Tn n l f g (fun _ => False) (List.replicate n 0) := ⟨List.length_replicate, fun _ _ h => h.elim⟩
theorem Tn.set {n : Nat} {l : List Nat} (m : Mx n l) {f g : Nat → Nat} {P : Nat → Prop} {th : List Nat} (h : Tn n l f g P th) {q : Nat} (hq : q < n) (hf : ∀ p, p < n → f p < n) (inj : ∀ p q, p < n → q < n → f p = f q → p = q) :
    Tn n l f g (fun p => P p ∨ p = q) (th.set (l.getD (f q) 0) (l.getD (g q) 0)) := by
  refine ⟨by rw [List.length_set]; exact h.len, fun p hp hP => ?_⟩
  rw [getD_setN (by rw [h.len]; exact m.lt' (hf q hq))]
  by_cases c : l.getD (f p) 0 = l.getD (f q) 0
  · rw [if_pos c, inj p q hp hq (m.inj (hf p hp) (hf q hq) c)]
  · rw [if_neg c]
    rcases hP with hP | hP
    · exact h.at_ p hp hP
    · rw [hP] at c; exact absurd rfl c
def schW (n : Nat) (D : List (List Nat × Nat)) : Web := (List.range n).map fun r => D.map fun q => (q.1.getD r 0, q.2)
structure Sc (n : Nat) (D : List (List Nat × Nat)) : Prop where
  at_ : ∀ (i : Nat) (th : List Nat) (mt : Nat), D[i]? = some (th, mt) → th.length = n ∧ (∀ r, r < n → th.getD r 0 < n ∧ th.getD r 0 ≠ r) ∧ ∃ th' : List Nat, D[mt]? = some (th', i) ∧ ∀ r, r < n → th'.getD (th.getD r 0) 0 = r
  l4 : D.length ≤ 4
theorem Sc.nil {n : Nat} : Sc n [] := ⟨fun i th mt h => by simp at h, Nat.zero_le _⟩
theorem get_app {α : Type} {l m : List α} {i : Nat} {x : α} (h : (l ++ m)[i]? = some x) : l[i]? = some x ∨ (l.length ≤ i ∧ m[i - l.length]? = some x) := by
  by_cases c : i < l.length
  · rw [List.getElem?_append_left c] at h; exact .inl h
  · rw [List.getElem?_append_right (by omega)] at h; exact .inr ⟨by omega, h⟩
theorem Sc.one {n : Nat} {D : List (List Nat × Nat)} (h : Sc n D) (hl : D.length < 4) {l : List Nat} (m : Mx n l) {g : Nat → Nat} {th : List Nat} (t : Tn n l (fun p => p) g (fun _ => True) th) (hg : ∀ p, p < n → g p < n ∧ g p ≠ p ∧ g (g p) = p) :
    Sc n (D ++ [(th, D.length)]) := by
  refine ⟨fun i th1 mt e => ?_, by rw [List.length_append, List.length_singleton]; omega⟩
  rcases get_app e with e | ⟨h1, e⟩
  · obtain ⟨q1, q2, th', q3, q4⟩ := h.at_ i th1 mt e
    exact ⟨q1, q2, th', by rw [List.getElem?_append_left (lt_of_get q3)]; exact q3, q4⟩
  · have hi : i - D.length = 0 := by have := lt_of_get e; simp at this; omega
    rw [hi] at e
    have e2 : (th, D.length) = (th1, mt) := Option.some.inj e
    injection e2 with e3 e4
    subst e3; subst e4
    have ei : i = D.length := by omega
    have tr : ∀ p, p < n → th.getD (l.getD p 0) 0 = l.getD (g p) 0 := fun p hp => t.at_ p hp trivial
    refine ⟨t.len, fun r hr => ?_, th, ?_, fun r hr => ?_⟩
    · obtain ⟨p, hp, e5⟩ := m.on hr
      have e6 := m.at hp
      rw [e5] at e6
      have e7 := Option.some.inj e6
      rw [e7, tr p hp]
      exact ⟨m.lt' (hg p hp).1, fun z => (hg p hp).2.1 (m.inj (hg p hp).1 hp z)⟩
    · rw [ei, List.getElem?_append_right (Nat.le_refl _), Nat.sub_self]; rfl
    · obtain ⟨p, hp, e5⟩ := m.on hr
      have e6 := m.at hp
      rw [e5] at e6
      have e7 := Option.some.inj e6
      rw [e7, tr p hp, tr (g p) (hg p hp).1, (hg p hp).2.2]
theorem Sc.two {n : Nat} {D : List (List Nat × Nat)} (h : Sc n D) (hl : D.length < 3) {l : List Nat} (m : Mx n l) {g g' : Nat → Nat} {th bk : List Nat} (t : Tn n l (fun p => p) g (fun _ => True) th) (t' : Tn n l g (fun p => p) (fun _ => True) bk)
    (hg : ∀ p, p < n → g p < n ∧ g p ≠ p ∧ g' p < n ∧ g (g' p) = p) : Sc n (D ++ [(th, D.length + 1), (bk, D.length)]) := by
  have tr : ∀ p, p < n → th.getD (l.getD p 0) 0 = l.getD (g p) 0 := fun p hp => t.at_ p hp trivial
  have br : ∀ p, p < n → bk.getD (l.getD (g p) 0) 0 = l.getD p 0 := fun p hp => t'.at_ p hp trivial
  have pl : ∀ r, r < n → ∃ p, p < n ∧ r = l.getD p 0 := fun r hr => by
    obtain ⟨p, hp, e5⟩ := m.on hr
    have e6 := m.at hp
    rw [e5] at e6
    exact ⟨p, hp, Option.some.inj e6⟩
  refine ⟨fun i th1 mt e => ?_, by rw [List.length_append]; simp; omega⟩
  rcases get_app e with e | ⟨h1, e⟩
  · obtain ⟨q1, q2, th', q3, q4⟩ := h.at_ i th1 mt e
    exact ⟨q1, q2, th', by rw [List.getElem?_append_left (lt_of_get q3)]; exact q3, q4⟩
  · have hi : i - D.length = 0 ∨ i - D.length = 1 := by have := lt_of_get e; simp at this; omega
    rcases hi with hi | hi
    · rw [hi] at e
      have e2 : (th, D.length + 1) = (th1, mt) := Option.some.inj e
      injection e2 with e3 e4
      subst e3; subst e4
      have ei : i = D.length := by omega
      refine ⟨t.len, fun r hr => ?_, bk, ?_, fun r hr => ?_⟩
      · obtain ⟨p, hp, e7⟩ := pl r hr
        rw [e7, tr p hp]
        exact ⟨m.lt' (hg p hp).1, fun z => (hg p hp).2.1 (m.inj (hg p hp).1 hp z)⟩
      · rw [ei, List.getElem?_append_right (by omega), show D.length + 1 - D.length = 1 by omega]; rfl
      · obtain ⟨p, hp, e7⟩ := pl r hr
        rw [e7, tr p hp, br p hp]
    · rw [hi] at e
      have e2 : (bk, D.length) = (th1, mt) := Option.some.inj e
      injection e2 with e3 e4
      subst e3; subst e4
      have ei : i = D.length + 1 := by omega
      have bq : ∀ p, p < n → bk.getD (l.getD p 0) 0 = l.getD (g' p) 0 := fun p hp => by
        have := br (g' p) (hg p hp).2.2.1
        rwa [(hg p hp).2.2.2] at this
      refine ⟨t'.len, fun r hr => ?_, th, ?_, fun r hr => ?_⟩
      · obtain ⟨p, hp, e7⟩ := pl r hr
        rw [e7, bq p hp]
        refine ⟨m.lt' (hg p hp).2.2.1, fun z => ?_⟩
        have e8 := m.inj (hg p hp).2.2.1 hp z
        have e9 := (hg p hp).2.2.2
        rw [e8] at e9
        exact (hg p hp).2.1 e9
      · rw [ei, List.getElem?_append_right (by omega), Nat.sub_self]; rfl
      · obtain ⟨p, hp, e7⟩ := pl r hr
        rw [e7, bq p hp, tr (g' p) (hg p hp).2.2.1, (hg p hp).2.2.2]
theorem sch_door {n : Nat} {D : List (List Nat × Nat)} {r i : Nat} (hr : r < n) : door (schW n D) r i = (D[i]?).map fun q => (q.1.getD r 0, q.2) := by
  unfold door schW
  rw [List.getElem?_map, List.getElem?_range hr]
  show (D.map fun q => (q.1.getD r 0, q.2))[i]? = _
  rw [List.getElem?_map]
theorem sch_len {n : Nat} {D : List (List Nat × Nat)} : (schW n D).length = n := by unfold schW; rw [List.length_map, List.length_range]
theorem sch_back {n : Nat} {D : List (List Nat × Nat)} (h : Sc n D) : ∀ r d t b, door (schW n D) r d = some (t, b) → t ≠ r ∧ door (schW n D) t b = some (r, d) := fun r d t b e => by
  have hr := (door_lt e).1
  rw [sch_len] at hr
  rw [sch_door hr] at e
  cases e1 : D[d]? with
  | none => rw [e1] at e; cases e
  | some q =>
    obtain ⟨th, mt⟩ := q
    rw [e1] at e
    have e2 : (th.getD r 0, mt) = (t, b) := Option.some.inj e
    injection e2 with e3 e4
    obtain ⟨_, h2, th', h3, h4⟩ := h.at_ d th mt e1
    obtain ⟨h5, h6⟩ := h2 r hr
    refine ⟨by rw [← e3]; exact h6, ?_⟩
    rw [sch_door (by rw [← e3]; exact h5), ← e4, h3]
    show some (th'.getD t 0, d) = some (r, d)
    rw [← e3, h4 r hr]
theorem sch_ok {n : Nat} (n2 : 2 ≤ n) (n7 : n ≤ 7) {D : List (List Nat × Nat)} (h : Sc n D) (hc : ∀ r, r < n → ∃ row, go (schW n D) 0 row = some r) : Ok (schW n D) := by
  have len : (schW n D).length = n := sch_len
  refine mk_ok (by omega) (by omega) (fun r hr => ?_) (sch_back h) fun r hr => hc r (by omega)
  rw [len] at hr
  have : deg (schW n D) r = D.length := by
    unfold deg schW
    rw [List.getD_eq_getElem?_getD, List.getElem?_map, List.getElem?_range hr]
    show (D.map _).length = _
    rw [List.length_map]
  rw [this]; exact h.l4
end K2
/-! K0: the text, heaps, pairs and webs on the heap, readings in short. -/
namespace K2
open PySem PySem.Spec PyProof.Rows L2
/-! ### the text -/
def topS (i : Nat) : Stmt := PySem.Challenge.pw_shrinkweb_k02_whole_shrinks.main.body.getD i (.Pass ⟨0, 0, 0, 0⟩)
/-- what the module's names hold: built-ins, constants -/
structure Glob (mg : Str → Option Value) : Prop where
  len : mg "len" = none
  range : mg "range" = none
  isinstance : mg "isinstance" = none
  int : mg "int" = none
  bool : mg "bool" = none
  tuple : mg "tuple" = none
  list : mg "list" = none
  str : mg "str" = none
  set : mg "set" = none
  sorted : mg "sorted" = none
  min : mg "min" = none
  max : mg "max" = none
  zip : mg "zip" = none
  enumerate : mg "enumerate" = none
  all : mg "all" = none
  MOST_ROOMS : ∃ u, mg "MOST_ROOMS" = some u ∧ RelV (.int 7) u
  MOST_DOORS : ∃ u, mg "MOST_DOORS" = some u ∧ RelV (.int 4) u
  MOST_DELAY : ∃ u, mg "MOST_DELAY" = some u ∧ RelV (.int 20) u
  MOST_ROW : ∃ u, mg "MOST_ROW" = some u ∧ RelV (.int 1000) u
/-! ### heaps: all but tables stays -/
def nt : HO → Bool
  | .tbl _ => false
  | _ => true
structure Sm (H H' : Hp) : Prop where
  at_ : ∀ b o, nt o = true → H b = some o → H' b = some o
  tb : ∀ p, GxR.TabG H p → GxR.TabG H' p
  no : ∀ b, H' b = none → H b = none
theorem Sm.refl (H : Hp) : Sm H H := ⟨fun _ _ _ h => h, fun _ h => h, fun _ h => h⟩
theorem Sm.trans {H H1 H2 : Hp} (a : Sm H H1) (b : Sm H1 H2) : Sm H H2 := ⟨fun c o n h => b.at_ c o n (a.at_ c o n h), fun p h => b.tb p (a.tb p h), fun c h => a.no c (b.no c h)⟩
theorem upd_no {H : Hp} {p : Addr} {o : HO} {b : Addr} (h : upd H p o b = none) : H b = none ∧ b ≠ p := by
  by_cases e : b = p
  · subst e; rw [upd_same] at h; cases h
  · rw [upd_ne e] at h; exact ⟨h, e⟩
/-- an object that H does not know may change -/
theorem Sm.mut {H H' : Hp} {p : Addr} {o : HO} (e : Sm H H') (h : H p = none) : Sm H (upd H' p o) where
  at_ := fun b u n q => by rw [upd_ne (ne_of_none q h)]; exact e.at_ b u n q
  tb := fun q t => by
    obtain ⟨qs, e1, r1⟩ := t
    obtain ⟨ps, e2, r2⟩ := e.tb q ⟨qs, e1, r1⟩
    exact ⟨ps, by rw [upd_ne (ne_of_none e1 h)]; exact e2, r2⟩
  no := fun b q => e.no b (upd_no q).1
theorem Sm.new {H : Hp} {p : Addr} {o : HO} (h : H p = none) : Sm H (upd H p o) := (Sm.refl H).mut h
theorem Sm.add {H H' : Hp} {p : Addr} {o : HO} (e : Sm H H') (h : H' p = none) : Sm H (upd H' p o) := e.trans (.new h)
/-- tuples stay -/
def Tk (H H' : Hp) : Prop := ∀ b xs, H b = some (.tup xs) → H' b = some (.tup xs)
theorem Tk.refl (H : Hp) : Tk H H := fun _ _ h => h
theorem Tk.trans {H H1 H2 : Hp} (a : Tk H H1) (b : Tk H1 H2) : Tk H H2 := fun c xs h => b c xs (a c xs h)
theorem Sm.tk {H H' : Hp} (e : Sm H H') : Tk H H' := fun b xs h => e.at_ b _ rfl h
theorem Tk.new {H : Hp} {p : Addr} {o : HO} (h : H p = none) : Tk H (upd H p o) := (Sm.new h).tk
theorem Tk.lst {H : Hp} {p : Addr} {o : HO} {ys : List V} (h : H p = some (.lst ys)) : Tk H (upd H p o) := fun b xs e => by
  rw [upd_ne (ne_of e h (by intro z; cases z))]; exact e
theorem Tk.dK {H : Hp} {p : Addr} {o : HO} {ys : List (Key × V)} (h : H p = some (.dK ys)) : Tk H (upd H p o) := fun b xs e => by
  rw [upd_ne (ne_of e h (by intro z; cases z))]; exact e
theorem Tk.dT {H : Hp} {p : Addr} {o : HO} {ys : List (List Key × V)} (h : H p = some (.dT ys)) : Tk H (upd H p o) := fun b xs e => by
  rw [upd_ne (ne_of e h (by intro z; cases z))]; exact e
/-! ### pairs, rows, webs on the heap -/
abbrev nI (n : Nat) : V := .int (n : Int)
def IsP (H : Hp) (v : V) (p : Nat × Nat) : Prop := ∃ a, v = .ref a ∧ H a = some (.tup [nI p.1, nI p.2])
def IsPs (H : Hp) (v : V) (ps : List (Nat × Nat)) : Prop := ∃ a vs, v = .ref a ∧ H a = some (.tup vs) ∧ Paired (IsP H) vs ps
def IsW (H : Hp) (v : V) (W : Web) : Prop := ∃ a vs, v = .ref a ∧ H a = some (.tup vs) ∧ Paired (IsPs H) vs W
theorem IsP.mono {H H' : Hp} {v : V} {p : Nat × Nat} (e : Tk H H') (h : IsP H v p) : IsP H' v p := by
  obtain ⟨a, rfl, h⟩ := h
  exact ⟨a, rfl, e _ _ h⟩
theorem IsPs.mono {H H' : Hp} {v : V} {p : List (Nat × Nat)} (e : Tk H H') (h : IsPs H v p) : IsPs H' v p := by
  obtain ⟨a, vs, rfl, h, r⟩ := h
  exact ⟨a, vs, rfl, e _ _ h, L2.Paired.mapP r fun _ _ q => q.mono e⟩
theorem IsW.mono {H H' : Hp} {v : V} {W : Web} (e : Tk H H') (h : IsW H v W) : IsW H' v W := by
  obtain ⟨a, vs, rfl, h, r⟩ := h
  exact ⟨a, vs, rfl, e _ _ h, L2.Paired.mapP r fun _ _ q => q.mono e⟩
theorem pget2 {α β : Type} {F : α → β → Prop} : ∀ {l₁ : List α} {l₂ : List β} {j : Nat} {y : β}, Paired F l₁ l₂ → l₂[j]? = some y → ∃ x, l₁[j]? = some x ∧ F x y
  | _, _, _, _, .nil, e => by simp at e
  | _, _, 0, y, .cons h _, e => ⟨_, rfl, by cases Option.some.inj e; exact h⟩
  | _, _, j + 1, y, .cons _ t, e => pget2 (j := j) t e
theorem pget1 {α β : Type} {F : α → β → Prop} : ∀ {l₁ : List α} {l₂ : List β} {j : Nat} {x : α}, Paired F l₁ l₂ → l₁[j]? = some x → ∃ y, l₂[j]? = some y ∧ F x y
  | _, _, _, _, .nil, e => by simp at e
  | _, _, 0, y, .cons h _, e => ⟨_, rfl, by cases Option.some.inj e; exact h⟩
  | _, _, j + 1, y, .cons _ t, e => pget1 (j := j) t e
/-! ### readings in short -/
section
variable {K : PySem.W.Frag} {H : Hp} {a : Addr} {vs : List V} {i : Nat} {v : V} {Q : VK} {W : Web} {w : V}
theorem r_ixT (h : H a = some (.tup vs)) (e : vs[i]? = some v) (q : Q v H) : rIxT K (.ref a) (nI i) H Q := ⟨a, vs, i, v, rfl, rfl, SqT.of h, atI_nat e, q⟩
theorem r_ixL (h : H a = some (.lst vs)) (e : vs[i]? = some v) (q : Q v H) : rIxL K (.ref a) (nI i) H Q := ⟨a, vs, i, v, rfl, rfl, SqL.of h, atI_nat e, q⟩
theorem r_p0 {p : Nat × Nat} (h : IsP H v p) (q : Q (nI p.1) H) : rIxT K v (.int 0) H Q := by
  obtain ⟨a, rfl, h⟩ := h
  exact ⟨a, _, 0, _, rfl, rfl, SqT.of h, atI_nat (j := 0) rfl, q⟩
theorem r_p1 {p : Nat × Nat} (h : IsP H v p) (q : Q (nI p.2) H) : rIxT K v (.int 1) H Q := by
  obtain ⟨a, rfl, h⟩ := h
  exact ⟨a, _, 1, _, rfl, rfl, SqT.of h, atI_nat (j := 1) rfl, q⟩
/-- web[r] -/
theorem r_web {r : Nat} (h : IsW H w W) (hr : r < W.length) (q : ∀ ds dv, W[r]? = some ds → IsPs H dv ds → Q dv H) : rIxT K w (nI r) H Q := by
  obtain ⟨a, vs, rfl, h, p⟩ := h
  obtain ⟨ds, e⟩ := get_of_lt hr
  obtain ⟨dv, e2, h2⟩ := pget2 p e
  exact r_ixT h e2 (q ds dv e h2)
/-- doors[d] -/
theorem r_ps {ds : List (Nat × Nat)} {d : Nat} {p : Nat × Nat} (h : IsPs H v ds) (e : ds[d]? = some p) (q : ∀ dv, IsP H dv p → Q dv H) : rIxT K v (nI d) H Q := by
  obtain ⟨a, vs, rfl, h, r⟩ := h
  obtain ⟨dv, e2, h2⟩ := pget2 r e
  exact r_ixT h e2 (q dv h2)
/-- len(doors) -/
theorem r_lenPs {ds : List (Nat × Nat)} (h : IsPs H v ds) (q : Q (nI ds.length) H) : ∃ p ys, [v] = [V.ref p] ∧ (SqL K H p ys ∨ SqT K H p ys) ∧ Q (.int (ys.length : Nat)) H := by
  obtain ⟨a, vs, rfl, h, r⟩ := h
  exact ⟨a, vs, rfl, .inr (SqT.of h), by rw [r.length]; exact q⟩
theorem r_lenW (h : IsW H w W) (q : Q (nI W.length) H) : ∃ p ys, [w] = [V.ref p] ∧ (SqL K H p ys ∨ SqT K H p ys) ∧ Q (.int (ys.length : Nat)) H := by
  obtain ⟨a, vs, rfl, h, r⟩ := h
  exact ⟨a, vs, rfl, .inr (SqT.of h), by rw [r.length]; exact q⟩
/-- a, b = pair -/
theorem r_un2 {p : Nat × Nat} {i j : Nat} {σ : L2.St} {R : L2.St → Hp → Prop} (h : IsP H v p) (q : R ((σ.set i (some (nI p.1))).set j (some (nI p.2))) H) : gTup K 2 (gCons (gName i) (gCons (gName j) gNil)) v σ H R := by
  obtain ⟨a, rfl, h⟩ := h
  exact ⟨a, _, rfl, SqT.of h, rfl, _, _, rfl, _, _, rfl, rfl, q⟩
end
end K2
/-! R5: enumerate of a tuple; d.items() of a dict by tuples. -/
namespace K2
open PySem PySem.Spec PyProof.Rows L2
/-- the tuple at a, each item in a new pair with its place -/
def ItE (K : PySem.W.Frag) (a : Addr) : It :=
  ⟨fun i H => ∃ (xs : List V) (x : V), SqT K H a xs ∧ xs[i]? = some x, fun i H v H' => ∃ T x, v = .ref T ∧ H T = none ∧ H' = upd H T (.tup [.int (i : Nat), x]) ∧ ∀ xs, SqT K H a xs → xs[i]? = some x, fun i H => ∃ xs : List V, SqT K H a xs ∧ xs.length = i⟩
theorem turn_enumT {P : Program} {w : World} {K : PySem.W.Frag} {elts : List Expr} {kk : Nat} {tpos : Pos} (a e it : Addr) :
    Turn P w K (.Tuple elts kk tpos) (ItE K a) [e, it] e (fun i h => (∃ old, IsEnum h e it ((i : Nat) : Int) old) ∧ h.IsTupleIter it a i ∧ e ≠ it ∧ e ≠ a ∧ it ≠ a) where
  mem := by simp
  obj := fun i h ⟨⟨old, he⟩, ⟨o, ho, hc, hd⟩, _⟩ b hb => by
    rcases List.mem_cons.mp hb with z | z
    · rw [z]; exact ⟨_, he, fun v q => nomatch q⟩
    · rw [List.mem_singleton.mp z]; exact ⟨o, ho, fun v q => by rw [hd] at q; cases q⟩
  keep := fun i h h' ⟨⟨old, he⟩, hi, hne⟩ k => ⟨⟨old, k e (by simp) _ he⟩, hi.at fun o q => k it (by simp) o q, hne⟩
  item := by
    intro X hP hw hK hc i pins s σ H E I hf st hg
    subst hP hw hK
    obtain ⟨⟨old, he⟩, hit, hne, hea, hia⟩ := st
    obtain ⟨xs, x, hq, hx⟩ := hg
    obtain ⟨its, rv, p, hz⟩ := I.tuple hq
    obtain ⟨u, hu, ru⟩ := rv.get hx
    have hel : e < s.heap.objs.size := Heap.lt_size he
    have hsz0 : i < its.toArray.size := by
      rw [List.size_toArray]
      exact lt_of_get hu
    have hA : X.A.in1.handled = none := by simp [I.ok.hd hc]
    refine wpAny_pyNext_enum_itemD (Draws.tuple hA it a (Ne.symm hia) its.toArray) he ⟨hit, p⟩ hsz0 hne (by simp [hne, hea]) fun x' h' tk hPx ho hst' hT hsz hk => ?_
    have ex : x' = u := by
      have e1 : its[i]? = some x' := by simpa using hPx
      rw [hu] at e1
      exact (Option.some.inj e1).symm
    subst ex
    refine ⟨_, rfl, wpAny_letOwnedTupleGo_enum (s := { s with heap := h', toks := tk + 1 }) ho fun h'' he' sb => ?_⟩
    have hT2 : h''.get? s.heap.objs.size = some { cls := .type "tuple", data := .seq #[.int i tk, x'] } := (sb.2 _ (Nat.ne_of_gt hel)).trans hT
    have new : ObjOk X.prog X.w (upd H s.heap.objs.size (.tup [.int (i : Nat), x])) h'' s.heap.objs.size (.tup [.int (i : Nat), x]) :=
      ⟨by show 2 ≤ sizeLine; decide, [.int i tk, x'], .cons ⟨_, rfl⟩ (.cons ru .nil), ⟨_, hT2, rfl, _, rfl⟩⟩
    have I1 : Inv X pins σ (upd H s.heap.objs.size (.tup [.int (i : Nat), x])) { s with heap := h'', toks := tk + 1 } :=
      I.turnedNew (t' := tk + 1) (ch := [e, it]) (fun b ob hb q => (sb.2 b (fun z => hb (by simp [z]))).trans (hk b ob (fun z => hb (by simp [z])) (fun z => hb (by simp [z])) q)) hf (Nat.le_refl _) new
    refine ⟨.ref s.heap.objs.size, _, I1, rfl, ⟨_, x, rfl, I.hok.fresh (Nat.le_refl _), rfl, fun ys hy => by rw [I.tuple_inj hy hq]; exact hx⟩, ⟨⟨_, he'⟩, hst'.1.at fun o q => (sb.2 it (Ne.symm hne)).trans q, hne, hea, hia⟩, fun b hb => ?_⟩
    have hb' : b < s.heap.objs.size := by
      rcases List.mem_cons.mp hb with z | z
      · rw [z]; exact hel
      · rw [List.mem_singleton.mp z]; obtain ⟨_, q, _⟩ := hit; exact Heap.lt_size q
    rw [upd_ne (Nat.ne_of_lt hb')]
    exact (hf b hb).1
  done := by
    intro X hP hw hK hc i pins s σ H E I hf st hg
    subst hP hw hK
    obtain ⟨⟨old, he⟩, hit, hne, hea, hia⟩ := st
    obtain ⟨xs, hq, hx⟩ := hg
    obtain ⟨its, rv, p, hz⟩ := I.tuple hq
    obtain ⟨f0, f1, f2, f3, f4, f5⟩ := hf it (by simp)
    have hl := rv.length
    have hA : X.A.in1.handled = none := by simp [I.ok.hd hc]
    have hle : its.toArray.size = i := by rw [List.size_toArray]; omega
    rw [← hle] at hit he
    refine wpAny_pyNext_enum_endD (Draws.tuple hA it a (Ne.symm hia) its.toArray) he ⟨hit, p⟩ fun h' eb => ⟨rfl, I.turned (t' := s.toks) (fun b o hb q => eb b o hb q) f0 f1 f3 f4 f5⟩
  self := fun A i s Q E st h => let ⟨⟨_, he⟩, _⟩ := st; wpAny_pyIter_enum he h
section
variable {prog : Program} {w : World} {A : Around} {E : Value → Shared → Prop} {s : Shared}
abbrev tupIt (t : Addr) : Obj := { cls := .type "tuple_iterator", data := .fields #[.ref t, .int 0 0] }
abbrev enumO (it : Addr) : Obj := { cls := .type "enumerate", data := .fields #[.none, .bool false, .ref it, rawInt 0, .none, .none] }
theorem meets_enumT (t : Addr) (items : Array Value) :
    Meets (Builtin.«enumerate.__new__» ⟨[.type "enumerate", .ref t], []⟩) (fun _ R s => s.heap.IsTuple t items ∧
      R (.ok (.ret (.ref (s.heap.push (tupIt t)).objs.size))) { s with heap := (s.heap.push (tupIt t)).push (enumO s.heap.objs.size) }) := by
  refine .of_wp fun prog w A R s h => ?_
  obtain ⟨hp, g, d, tk, os⟩ := s
  obtain ⟨h1, h⟩ := h
  have hsub := sub_enumerate
  have q1 : ∀ {A' : Around} {E Q : Value → Shared → Prop}, Q (.ref hp.objs.size) ⟨hp.push (tupIt t), g, d, tk, os⟩ → wpAny (model prog w) A' (pyIter (.ref t)) Q E ⟨hp, g, d, tk, os⟩ :=
    fun q => (begins_tuple t items).iter prog w _ _ ⟨hp, g, d, tk, os⟩ _ h1 q
  wp_walk using q1
  refine wpAny_stack_any fun st => wpAny_pure ?_
  split
  · rename_i c _ _ _ _ _
    cases (c == Value.type "enumerate") <;> (wp_walk using q1; exact ⟨_, rfl, h⟩)
  · wp_walk using q1
    exact ⟨_, rfl, h⟩
theorem call_enumT {t : Addr} {items : Array Value} {Q : Value → Shared → Prop} (hT : s.heap.IsTuple t items)
    (h : ∀ h', IsEnum h' (s.heap.objs.size + 1) s.heap.objs.size 0 .none → h'.IsTupleIter s.heap.objs.size t 0 → (∀ b o, s.heap.get? b = some o → h'.get? b = some o) → Q (.ref (s.heap.objs.size + 1)) { s with heap := h' }) :
    wpAny (model prog w) A (call (.type "enumerate") [.ref t]) Q E s := by
  refine callType_new F.called_enumerate (by decide) (F.typeCall_enumerate_1 _) (F.newCall_enumerate_1 _) (fun obj => F.args_object_init_2 obj _) F.entry_enumerate_new (meets_enumT t items) ⟨hT, ?_⟩
  have hz : (s.heap.push (tupIt t)).objs.size = s.heap.objs.size + 1 := Heap.size_push ..
  show _ ∧ _
  rw [hz]
  have he : IsEnum ((s.heap.push (tupIt t)).push (enumO s.heap.objs.size)) (s.heap.objs.size + 1) s.heap.objs.size 0 .none := by
    have z := Heap.get?_push_size (s.heap.push (tupIt t)) (o := enumO s.heap.objs.size) rfl
    rw [hz] at z
    exact z
  exact ⟨⟨_, he, rfl⟩, h _ he ⟨_, Heap.get?_push_of_some _ (Heap.get?_push_size _ rfl), rfl, rfl⟩ fun b o x => Heap.get?_push_of_some _ (Heap.get?_push_of_some _ x)⟩
end
def iEnumT (K : PySem.W.Frag) (ta : TA) : TI := fun σ H R => ta σ H fun vs H1 => ∃ a xs, vs = [.ref a] ∧ SqT K H1 a xs ∧ R (ItE K a) H1
theorem pi_enumT {X : Cx} {e : Expr} {ta : TA} {p pos tpos : Pos} {elts : List Expr} {kk : Nat} (hg : Gl X "enumerate") (hm : X.mg "enumerate" = none) (ha : PA X [e] ta) (hs : starEach [e] X.env = [(false, eval e X.env)] := by rfl) :
    PI X (.Tuple elts kk tpos) (.Call (.Name "enumerate" p) [e] [] pos) (iEnumT X.K ta) := by
  refine ⟨fun pins s σ H R I h => ?_⟩
  refine Call_ (ld_blt I hg hm boot_enumerate (PyProof.Rows.callWith_type1 (thn (ha.run pos pins s σ H _ I h) fun us s1 ⟨vs, H1, I1, r1, q1⟩ => ?_) hs rfl))
  obtain ⟨a, xs, ex, hq, q⟩ := q1
  subst ex
  cases r1 with
  | cons r rr =>
    cases rr
    cases r
    obtain ⟨its, rv, p', hz⟩ := I1.tuple hq
    have la : a < s1.heap.objs.size := by obtain ⟨o, e, _⟩ := p'; exact Heap.lt_size e
    refine call_enumT (items := its.toArray) p' fun h' he hit hk => wpAny_pyIter_enum he ?_
    have I2 : Inv X pins σ H1 { s1 with heap := h' } := I1.kept (t' := s1.toks) hk
    refine ⟨_, _, _, _, H1, rfl, I2, turn_enumT a (s1.heap.objs.size + 1) s1.heap.objs.size, ⟨⟨.none, he⟩, hit, Nat.succ_ne_self _, Nat.ne_of_gt (Nat.lt_succ_of_lt la), Nat.ne_of_gt la⟩, fun b hb => ?_, q⟩
    have hle : s1.heap.objs.size ≤ b := by
      rcases List.mem_cons.mp hb with z | z
      · rw [z]; exact Nat.le_add_right _ _
      · rw [List.mem_singleton.mp z]; exact Nat.le_refl _
    exact I1.fpOk hle (I1.hok.fresh hle)
/-! ### d.items() -/
def ItT (d : Addr) (o : Obj) (kvs : List (List Key × V)) : It :=
  ⟨fun i H => H d = some (.frz o (.dT kvs)) ∧ i < kvs.length, fun i H x H' => ∃ T k v q, kvs[i]? = some (k, v) ∧ x = .ref T ∧ H T = none ∧ H q = some (.tup (k.map kV)) ∧ H' = upd H T (.tup [.ref q, v]), fun i H => H d = some (.frz o (.dT kvs)) ∧ kvs.length ≤ i⟩
theorem for_enumT {K : PySem.W.Frag} {a : Addr} {xs : List V} {g : TG} {tb : TS} {D : Ends} {σ : L2.St} {H : Hp} (Pv : Nat → L2.St → Hp → Prop) (h0 : Pv 0 σ H) (hq : ∀ i σ H, Pv i σ H → SqT K H a xs)
    (hs : ∀ (i : Nat) (x : V) (T : Addr) (σ : L2.St) (H : Hp), xs[i]? = some x → Pv i σ H → H T = none → g (.ref T) σ (upd H T (.tup [nI i, x])) fun σ2 H2 => tb { D with nx := Pv (i + 1), ct := Pv (i + 1), bk := D.nx } σ2 H2) (hd : ∀ σ H, Pv xs.length σ H → D.nx σ H) :
    ∃ W : Nat → Nat → L2.St → Hp → Prop, (∃ m, W 0 m σ H) ∧ ∀ i m σ H, W i m σ H →
      ((ItE K a).stop i H ∧ D.nx σ H) ∨ ((ItE K a).go i H ∧ ∃ N : L2.St → Hp → Prop, (∀ σ' H', N σ' H' → ∃ m', m' < m ∧ W (i + 1) m' σ' H') ∧ ∀ v H', (ItE K a).yld i H v H' → g v σ H' fun σ2 H2 => tb { D with nx := N, ct := N, bk := D.nx } σ2 H2) := by
  refine ⟨fun i m σ H => m = xs.length - i ∧ i ≤ xs.length ∧ Pv i σ H, ⟨_, rfl, Nat.zero_le _, h0⟩, ?_⟩
  rintro i m σ H ⟨rfl, hi, p⟩
  have qx := hq i σ H p
  by_cases hlt : i < xs.length
  · obtain ⟨x, hx⟩ := get_of_lt hlt
    refine .inr ⟨⟨xs, x, qx, hx⟩, Pv (i + 1), fun σ' H' p' => ⟨xs.length - (i + 1), by omega, rfl, hlt, p'⟩, fun v H' y => ?_⟩
    obtain ⟨T, x', rfl, hT, rfl, f1⟩ := y
    exact hs i x' T σ H (f1 xs qx) p hT
  · have e : xs.length = i := by omega
    subst e
    exact .inl ⟨⟨xs, qx, rfl⟩, hd σ H p⟩
theorem for_itemsT {d : Addr} {od : Obj} {kvs : List (List Key × V)} {g : TG} {tb : TS} {D : Ends} {σ : L2.St} {H : Hp} (Pv : Nat → L2.St → Hp → Prop) (h0 : Pv 0 σ H) (hq : ∀ i σ H, Pv i σ H → H d = some (.frz od (.dT kvs)))
    (hs : ∀ (i : Nat) (k : List Key) (x : V) (q T : Addr) (σ : L2.St) (H : Hp), kvs[i]? = some (k, x) → Pv i σ H → H T = none → H q = some (.tup (k.map kV)) → g (.ref T) σ (upd H T (.tup [.ref q, x])) fun σ2 H2 => tb { D with nx := Pv (i + 1), ct := Pv (i + 1), bk := D.nx } σ2 H2) (hd : ∀ σ H, Pv kvs.length σ H → D.nx σ H) :
    ∃ W : Nat → Nat → L2.St → Hp → Prop, (∃ m, W 0 m σ H) ∧ ∀ i m σ H, W i m σ H →
      ((ItT d od kvs).stop i H ∧ D.nx σ H) ∨ ((ItT d od kvs).go i H ∧ ∃ N : L2.St → Hp → Prop, (∀ σ' H', N σ' H' → ∃ m', m' < m ∧ W (i + 1) m' σ' H') ∧ ∀ v H', (ItT d od kvs).yld i H v H' → g v σ H' fun σ2 H2 => tb { D with nx := N, ct := N, bk := D.nx } σ2 H2) := by
  refine ⟨fun i m σ H => m = kvs.length - i ∧ i ≤ kvs.length ∧ Pv i σ H, ⟨_, rfl, Nat.zero_le _, h0⟩, ?_⟩
  rintro i m σ H ⟨rfl, hi, p⟩
  have qx := hq i σ H p
  by_cases hlt : i < kvs.length
  · refine .inr ⟨⟨qx, hlt⟩, Pv (i + 1), fun σ' H' p' => ⟨kvs.length - (i + 1), by omega, rfl, hlt, p'⟩, fun v H' y => ?_⟩
    obtain ⟨T, k, x, q, e, rfl, hT, hq2, rfl⟩ := y
    exact hs i k x q T σ H e p hT hq2
  · have e : kvs.length = i := by omega
    subst e
    exact .inl ⟨⟨qx, Nat.le_refl _⟩, hd σ H p⟩
section
variable {P : Program} {w : World} {K : PySem.W.Frag} {d : Addr} {o : Obj} {es : Array DictEntry} {ep : Nat}
theorem frzV {X : Cx} {pins : List (Addr × Obj)} {σ : L2.St} {H : Hp} {s : Shared} {kvs : List (List Key × V)} (I : Inv X pins σ H s) (h : H d = some (.frz o (.dT kvs))) :
    (d == sysModules) = false ∧ s.heap.get? d = some o ∧ o.ExactDict ∧ ∃ (es : Array DictEntry) (ep : Nat), o.data = .dict es ep ∧ es.size = kvs.length ∧
      ∀ (i : Nat) (k : List Key) (v : V), kvs[i]? = some (k, v) → ∃ (en : DictEntry) (q : Addr), es[i]? = some en ∧ en.key = .ref q ∧ H q = some (.tup (k.map kV)) ∧ RelV v en.val := by
  obtain ⟨hd, z, hs, xs, pr, o', es, ep, ho, hx, hdt, he, _⟩ := I.hok d _ h
  rw [hd] at ho
  cases ho
  refine ⟨hs, hd, hx, es, ep, hdt, ?_, fun i k v e => ?_⟩
  · have l1 : es.size = xs.length := size_of_entries he
    have l2 : kvs.length = xs.length := Paired.length pr
    omega
  · obtain ⟨b, hb, e1, e2, e3⟩ := paired_get pr e
    have q := entry_at he i
    rw [hb] at q
    exact ⟨_, b.2.1, q, rfl, e2, e3⟩
theorem turn_itemsT {kvs : List (List Key × V)} {elts : List Expr} {kk : Nat} {tpos : Pos} (it : Addr) (hod : o.data = .dict es ep) (hes : es.size = kvs.length) :
    Turn P w K (.Tuple elts kk tpos) (ItT d o kvs) [it] it (fun i h => ∃ ok ov, IsItemIter h it d i es.size ep ok ov) where
  mem := by simp
  obj := fun i h ⟨ok, ov, e⟩ b hb => by
    rw [List.mem_singleton.mp hb]
    exact ⟨_, e, fun v z => nomatch z⟩
  keep := fun i h h' ⟨ok, ov, e⟩ k => ⟨ok, ov, k it (by simp) _ e⟩
  item := by
    intro X hP hw hK hc i pins s σ H E I hf st hg
    subst hP hw hK
    obtain ⟨hd, hi⟩ := hg
    obtain ⟨hs, hgd, hx, es', ep', hdt, hsz, ent⟩ := frzV I hd
    obtain ⟨rfl, rfl⟩ := dict_ep hod hdt
    obtain ⟨⟨k, v⟩, hkv⟩ := get_of_lt hi
    obtain ⟨en, q, hen, hkey, hq, rv⟩ := ent i k v hkv
    obtain ⟨ok, ov, he⟩ := st
    have hlt : it < s.heap.objs.size := Heap.lt_size he
    have hie : i < es'.size := by rw [hes]; exact hi
    have hm : s.heap.DictRaw d es' ep' := ⟨o, hgd, hx, hdt⟩
    have hen2 : es'[i] = en := by
      rw [Array.getElem?_eq_getElem hie] at hen
      exact Option.some.inj hen
    refine wpAny_pyNext_items_item_raw he hm hie fun h' ho hT hz hk => ?_
    rw [hen2, hkey] at hT ho
    refine ⟨_, rfl, wpAny_letOwnedTupleGo_items (s := { s with heap := h' }) ho fun h'' he' sb => ?_⟩
    have hT2 : h''.get? s.heap.objs.size = some { cls := .type "tuple", data := .seq #[.ref q, en.val] } := (sb.2 _ (Nat.ne_of_gt hlt)).trans hT
    have new : ObjOk X.prog X.w (upd H s.heap.objs.size (.tup [.ref q, v])) h'' s.heap.objs.size (.tup [.ref q, v]) :=
      ⟨by show 2 ≤ sizeLine; decide, [.ref q, en.val], .cons rfl (.cons rv .nil), ⟨_, hT2, rfl, _, rfl⟩⟩
    have I1 : Inv X pins σ (upd H s.heap.objs.size (.tup [.ref q, v])) { s with heap := h'' } :=
      I.turnedNew (t' := s.toks) (ch := [it]) (fun b ob hb e => (sb.2 b (by simpa using hb)).trans (hk b ob (by simpa using hb) e)) hf (Nat.le_refl _) new
    refine ⟨.ref s.heap.objs.size, _, I1, rfl, ⟨_, k, v, q, hkv, rfl, I.hok.fresh (Nat.le_refl _), hq, rfl⟩, ⟨_, _, he'⟩, fun b hb => ?_⟩
    rw [List.mem_singleton.mp hb, upd_ne (Nat.ne_of_lt hlt)]
    exact (hf it (by simp)).1
  done := by
    intro X hP hw hK hc i pins s σ H E I hf st hg
    subst hP hw hK
    obtain ⟨hd, hi⟩ := hg
    obtain ⟨f0, f1, f2, f3, f4, f5⟩ := hf it (by simp)
    obtain ⟨hs, hgd, hx, es', ep', hdt, hsz, ent⟩ := frzV I hd
    obtain ⟨rfl, rfl⟩ := dict_ep hod hdt
    obtain ⟨ok, ov, he⟩ := st
    exact wpAny_pyNext_items_end_raw (I.ok.hd hc) he ⟨o, hgd, hx, hdt⟩ (by rw [hes]; exact hi) fun h' eb => ⟨rfl, I.turned (t' := s.toks) (fun b ob hb e => eb b ob hb e) f0 f1 f3 f4 f5⟩
  self := fun A i s Q E st h => let ⟨_, _, e⟩ := st; wpAny_pyIter_itemiter e h
def iItemsT (td : TE) : TI := fun σ H R => td σ H fun x H1 => ∃ d kvs, x = .ref d ∧ H1 d = some (.dT kvs) ∧ ∀ od, R (ItT d od kvs) (upd H1 d (.frz od (.dT kvs)))
theorem pi_itemsT {X : Cx} {e : Expr} {td : TE} {apos cpos tpos : Pos} {elts : List Expr} {kk : Nat} (he : PE X e td) (hbase : attributeBase e "items" X.env (eval e X.env) = eval e X.env := by rfl) (hline : (apos.endLine == cpos.line) = true := by rfl) :
    PI X (.Tuple elts kk tpos) (.Call (.Attribute e "items" apos) [] [] cpos) (iItemsT td) := by
  refine ⟨fun pins s σ H R I h => ?_⟩
  refine wpAny_Call_method (T := "dict") (id := "dict.items") hbase rfl hline F.plainAttrs_dict F.slot_dict_items F.type_dict_items (thn (he.run pins s σ H _ I h) fun u s1 ⟨x, H1, I1, rx, d, kvs, ex, hd, q⟩ => ?_)
  subst ex
  obtain rfl : u = Value.ref d := rx
  obtain ⟨od, I1'⟩ := I1.lock hd True.intro
  have hd2 : upd H1 d (.frz od (.dT kvs)) d = some (.frz od (.dT kvs)) := upd_same
  obtain ⟨hs, hgd, hx, es, ep, hdt, hsz, ent⟩ := frzV I1' hd2
  have hm : s1.heap.DictRaw d es ep := ⟨od, hgd, hx, hdt⟩
  refine ⟨hm.typeIs, fun b e => ?_, ?_⟩
  · cases e
    exact ⟨od, hgd, hx.2.1⟩
  have I2 : Inv X pins σ (upd H1 d (.frz od (.dT kvs))) { s1 with heap := s1.heap.push { cls := .type "dict_items", data := .fields #[.ref d] } } := I1'.kept (t' := s1.toks) fun b ob q => Heap.get?_push_of_some _ q
  have fin : wpAny (model X.prog X.w) X.A (pyIter (.ref s1.heap.objs.size)) (PIE X pins σ (.Tuple elts kk tpos) R) X.xe { s1 with heap := s1.heap.push { cls := .type "dict_items", data := .fields #[.ref d] } } := by
    refine wpAny_pyIter_items_raw ⟨_, Heap.get?_push_size _ rfl, rfl, rfl⟩ (hm.at fun _ e => Heap.get?_push_of_some _ e) (pi_one (tk := s1.toks) I2 _ (turn_itemsT _ hdt hsz) ⟨.none, .none, ?_⟩ (q od))
    exact Heap.get?_push_size _ rfl
  show wpAny _ _ (callWith cpos (.builtin "dict.items") [.ref d] [] []) _ X.xe s1
  exact method_meetsIn F.slot_dict_items F.entry_dict_items rfl (PySem.evalArgs_none ⟨rfl, hm.typeIs, F.args_dict_items_1 _, _, meets_dict_items_raw d hs, ⟨es, ep, hm⟩, fin⟩)
end
end K2
/-! R6: {(a, b): v}; more walks. -/
namespace K2
open PySem PySem.Spec PyProof.Rows L2
def tDispT (tk tv : TE) : TE := fun σ H Q => ∀ p, H p = none → tPairs [(tk, tv)] σ (upd H p (.dT [])) fun ps H2 => ∃ x y, ps = [(x, y)] ∧ H2 p = some (.dT []) ∧ ∃ (b : Addr) (ks : List Key), x = .ref b ∧ H2 b = some (.tup (ks.map kV)) ∧ Q (.ref p) (upd H2 p (.dT [(ks, y)]))
section
variable {X : Cx}
theorem pe_dispT {k v : Expr} {pos : Pos} {tk tv : TE} (hu : X.A.units + 1 < cLine) (hk : PE X k tk) (hv : PE X v tv) : PE X (.Dict [some k] [v] pos) (tDispT tk tv) := by
  refine ⟨fun pins s σ H Q I q => ?_⟩
  have hn := I.hok.fresh (Nat.le_refl s.heap.objs.size)
  have I1 := I.laid (a := s.heap.objs.size) (o := .dT []) (h' := s.heap.push { cls := .type "dict", data := .dict #[] }) (t' := s.toks) (fun _ _ q => Heap.get?_push_of_some _ q) (Nat.le_refl _) (dt_empty s.heap I.big)
  have hP : PPs X pos [some k] [v] [(tk, tv)] := pps_cons hk hv pps_nil
  rw [arm_eval_Dict, zip_pairTrees [some k] [v] X.env pos rfl rfl, dictDisplay_pairs _ (by intro z; cases z) (by show 1 < 17; decide)]
  refine wpAny_bind (wpAny_standAt (wpAny_bind (wpAny_subDictH (knd := tupleKind (mixKind X.prog X.w)) (Q := fun d s' => wpAny (model X.prog X.w) X.A (pure (Value.ref d)) (EP X pins σ Q) X.xe s') (show X.A.units < cLine by omega) (by show 1 ≤ 15; decide) ?_)))
  refine thn (hP.run pins _ σ _ (fun ps H2 => ∃ x y, ps = [(x, y)] ∧ H2 s.heap.objs.size = some (.dT []) ∧ ∃ (b : Addr) (ks : List Key), x = .ref b ∧ H2 b = some (.tup (ks.map kV)) ∧ Q (.ref s.heap.objs.size) (upd H2 s.heap.objs.size (.dT [(ks, y)]))) I1 ?_) fun ws s2 ⟨ps, H2, I2, rel, x, y, ep, hd, b, ks, ex, hb, q2⟩ => ?_
  · exact q _ hn
  · subst ep ex
    cases rel with
    | @cons _ wv _ _ r rr =>
      cases rr
      obtain ⟨w1, w2⟩ := wv
      obtain ⟨r1, r2⟩ := r
      obtain rfl : w1 = Value.ref b := r1
      obtain ⟨z, hs, xs, kt, dd⟩ := dt_of I2.hok hd
      cases kt
      refine ⟨[(ks, b, w2)], ⟨rfl, rfl, key_of I2.hok hb, True.intro⟩, dd, fun h' tk dd' hs' => ?_⟩
      obtain ⟨o, es, ep, hq, h2, h3, h4, _, h5⟩ := dd'
      refine wpAny_pure ⟨.ref s.heap.objs.size, _, ?_, rfl, q2⟩
      refine d_write I2 (by rw [hd]; exact True.intro) hs' ⟨o, hq⟩ ⟨by show 1 ≤ sizeLine; decide, hs, [(ks, b, w2)], .cons ⟨rfl, ?_, r2⟩ .nil, o, es, ep, hq, h2, h3, h4, h5⟩
      rw [upd_ne (ne_of hb hd (fun z => nomatch z))]
      exact hb
end
theorem walk_enumT {K : PySem.W.Frag} {a : Addr} {xs : List V} : Walk (ItE K a) xs.length (fun H => SqT K H a xs) (YPair (fun i => some (nI i)) (fun i => xs[i]?)) := by
  refine ⟨fun i _ hi q => ⟨xs, xs[i], q, by simp [hi]⟩, fun _ q => ⟨xs, q, rfl⟩, fun i H v H' _ q y => ?_⟩
  obtain ⟨T, x, h1, h2, h3, h4⟩ := y
  exact ⟨T, nI i, x, h1, h2, h3, rfl, h4 xs q⟩
theorem walk_zT {K : PySem.W.Frag} {a b : Addr} {xs ys : List V} {n : Nat} (hn : n = min xs.length ys.length) : Walk (RZ.ItzT K a b) n (fun H => SqT K H a xs ∧ SqT K H b ys) (YPair (fun i => xs[i]?) (fun i => ys[i]?)) := by
  subst hn
  refine ⟨fun i _ hi q => ?_, fun _ q => ⟨xs, ys, q.1, q.2, by omega⟩, fun i H v H' _ q y => ?_⟩
  · have h1 : i < xs.length := by omega
    have h2 : i < ys.length := by omega
    exact ⟨xs, ys, xs[i], ys[i], q.1, q.2, by simp [h1], by simp [h2]⟩
  · obtain ⟨T, x, z, h1, h2, h3, h4, h5⟩ := y
    exact ⟨T, x, z, h1, h2, h3, h4 xs q.1, h5 ys q.2⟩
end K2
/-! R1: all(elt for target in iter), the element any expression that the layer reads (it may call). -/
namespace K2
open PySem PySem.Spec PyProof.Rows L2
open GxR (TabB TabG Tabbed)
/-- the context of a generator expression's frame -/
abbrev gcx (X : Cx) (s : Shared) (H : Hp) (cenv : Env) (fp : List Addr) : Cx :=
  { X with A := (X.A.in1.in1).deeper cenv, s_0 := s, H_0 := H, env := cenv, outer := X.stack, stack := cenv :: X.stack, ex := fp, fn := fun _ => false, pn := [], xe := fun _ _ => False }
abbrev genv (X : Cx) (scope : Scope) (C : Addr) (code : Value) : Env := genEnv scope (cloFrom X.env.cells scope.names []) C code builtinsNs X.env
section
variable {X : Cx} {pins : List (Addr × Obj)} {σ : L2.St} {H : Hp} {s : Shared}
theorem inv_gens {g' : Array GenState} (I : Inv X pins σ H s) (hg : AllBare g') : Inv X pins σ H { s with gens := g' } :=
  I.call' (ch := []) rfl (Un.kept fun _ _ e => e) (I.hok.kept fun _ _ e => e) hg (fun _ z => nomatch z)
theorem over_comp {A : Around} {elt tg iter : Expr} {ifs : List Expr} {scope : Scope} {pos : Pos} {it acc : Value} {env : Env} (hf : env.frame = some env.locals) : A.over (.compLoop (.GeneratorExp elt [⟨tg, iter, ifs, 0⟩] scope pos) 0 it acc env) [] = A.deeper env := rfl
theorem over_start {A : Around} {elt tg iter : Expr} {ifs : List Expr} {scope : Scope} {pos : Pos} {it acc : Value} {env : Env} (hf : env.frame = some env.locals) : A.over (.compStart (.GeneratorExp elt [⟨tg, iter, ifs, 0⟩] scope pos) 0 it acc env) [] = A.deeper env := rfl
theorem gen_start {scope : Scope} {own : List (Str × Nat)} {fp : List Addr} {code : Value} {h' : Heap} {m : Str → Option Value} {ga : Obj} {g' : Array GenState} {t' : Nat} (I : Inv X pins σ H s) (ok : BlkOk X.N X.env.scope scope own) (hN : X.N.Nodup) (hcalm : X.calm = true)
    (hcell : ∀ y ∈ scope.names, y.2 ≠ .cell) (hfp : ∀ b ∈ fp, FpOk X pins H b ∧ b < s.heap.objs.size) (hn : h'.Ns s.heap.objs.size m) (hs : Heap.SameBut s.heap.objs.size (s.heap.push { cls := .type "frame", data := .dict #[] }) h') (hga : ∀ v, ga.data ≠ .cell v) (hfr : ga.isFreed = false) (hg : AllBare g') :
    Inv (gcx X s H (genv X scope s.heap.objs.size code) fp) [(h'.objs.size, ga)] (wipe σ (own.map (·.2))) H { s with gens := g', toks := t', heap := h'.push ga } := by
  have hfree : ∀ y ∈ scope.names, y.2 = .free → ∃ c, X.env.cells.lookup y.1 = some c := fun y hy e => by
    rcases ok.free y hy e with k | k
    · exact I.ok.has _ (.inl k)
    · exact I.ok.has _ (.inr k)
  have szh : h'.objs.size = s.heap.objs.size + 1 := by rw [hs.1, Heap.size_push]
  have kp : ∀ b o, s.heap.get? b = some o → (h'.push ga).get? b = some o := fun b o e => Heap.get?_push_of_some _ (hs.extBut b o (Nat.ne_of_lt (Heap.lt_size e)) (Heap.get?_push_of_some _ e))
  have cm : ∀ {y c}, (y, c) ∈ cloFrom X.env.cells scope.names [] → X.env.cells.lookup y = some c ∧ c < s.heap.objs.size := fun {y c} hm => by
    rcases cloFrom_mem hm with hm | ⟨h1, rfl⟩
    · cases hm
    · obtain ⟨c, hc⟩ := hfree _ h1 rfl
      rw [hc]
      obtain ⟨w, z⟩ := I.cell _ _ hc
      exact ⟨rfl, z.lt⟩
  have mem : ∀ {y c}, (cloFrom X.env.cells scope.names []).lookup y = some c → X.env.cells.lookup y = some c ∧ c < s.heap.objs.size := fun {y c} e => cm (PySem.mem_of_lookup e)
  have look : ∀ {y}, scope.names.lookup y = some .free → ∃ c, (cloFrom X.env.cells scope.names []).lookup y = some c ∧ X.env.cells.lookup y = some c := fun {y} hl => by
    have hy : (y, NameKind.free) ∈ scope.names := PySem.mem_of_lookup hl
    obtain ⟨c', e'⟩ := mem_lookup (cloFrom_has (cells := X.env.cells) (acc := []) hy)
    exact ⟨c', e', (mem e').1⟩
  have okB : (gcx X s H (genv X scope s.heap.objs.size code) fp).Ok := by
    refine ⟨I.ok.mod, ok.kind, I.ok.glob, rfl, Nat.le_refl _, fun y z c e1 e2 => I.ok.inj y z c (mem e1).1 (mem e2).1, fun y hy => ?_, fun y c z e => absurd (show false = true from z) Bool.false_ne_true, fun _ => I.ok.hd hcalm, ?_, .inr ⟨rfl, rfl⟩, fun b hb => ⟨?_, fun y c e z => ?_⟩,
      I.bs, Nat.le_trans I.ok.bsz I.sz, fun b o e hb => ?_, fun b hb z => ?_, I.stack, I.stkFree⟩
    · have key : ∀ k, scope.names.lookup y = some k → (k = .cell ∨ k = .free) → ∃ c, (cloFrom X.env.cells scope.names []).lookup y = some c := fun k hk hk' => by
        rcases hk' with rfl | rfl
        · exact absurd rfl (hcell _ (PySem.mem_of_lookup hk))
        · obtain ⟨c, h1, _⟩ := look hk
          exact ⟨c, h1⟩
      rcases hy with hy | hy
      · exact key _ hy (.inl rfl)
      · exact key _ hy (.inr rfl)
    · exact Around.frames_deeper (show X.A.in1.in1.frames = some X.stack from I.ok.frames)
    · exact Nat.ne_of_lt (hfp b hb).2
    · exact (hfp b hb).1.2.2.2.2.1 y c (mem e).1 z
    · rcases (hfp b hb).1.2.2.2.1 with z | z
      · exact I.ok.noex b o e z
      · exact absurd (Nat.lt_of_lt_of_le (Heap.lt_size e) (Nat.le_trans I.ok.bsz z)) (Nat.lt_irrefl _)
    · rcases List.mem_cons.mp (I.stkSub b z) with z | z
      · exact (hfp b hb).1.2.1 z
      · exact (hfp b hb).1.2.2.1 z
  refine ⟨okB, rfl, hg, Un.kept kp, ⟨m, (hn.push _), fun i y av e1 e2 e3 => ?_⟩, fun y c e => ?_, I.hok.fresh (Nat.le_refl _), fun y c e => I.freeC y c (mem e).1, fun p hp => ?_, I.hok.kept kp, by rw [wipe_length]; exact I.len⟩
  · obtain ⟨e2, hne⟩ := wipe_some e2
    have hfre : scope.names.lookup y = some .free := by
      have no : ∀ k, scope.names.lookup y = some k → ¬ (k = .local ∨ k = .cell) := fun k e hh => by
        rcases ok.own _ (PySem.mem_of_lookup e) hh with e' | e'
        · obtain ⟨p, hp, hpy⟩ := List.mem_map.mp e'
          have e3 := ok.ix p hp
          have : p.1 = y := hpy
          rw [this] at e3
          exact hne (List.mem_map.mpr ⟨p, hp, nodup_ix hN e3 e1⟩)
        · exact e' (List.mem_of_getElem? e1)
      have e3 : Vis scope y := e3
      rcases e3 with e3 | e3 | e3
      · exact absurd (.inl rfl) (no _ e3)
      · exact absurd (.inr rfl) (no _ e3)
      · exact e3
    obtain ⟨m1, hn1, hl⟩ := I.loc
    have hvis : Vis X.env.scope y := (ok.free _ (PySem.mem_of_lookup hfre) rfl).elim (fun k => .inr (.inl k)) (fun k => .inr (.inr k))
    obtain ⟨w, r, q⟩ := hl i y av e1 e2 hvis
    obtain ⟨c, h1, h2⟩ := look hfre
    refine ⟨w, r, .inr ⟨.inr hfre, c, h1, ?_⟩⟩
    rcases q with ⟨k, _⟩ | ⟨_, c', e', z⟩
    · have k : X.env.scope.names.lookup y = some .local := k
      rcases ok.free _ (PySem.mem_of_lookup hfre) rfl with k' | k' <;> rw [show X.env.scope.names.lookup y = _ from k'] at k <;> cases k
    · rw [h2] at e'; cases e'
      exact z.keeps kp
  · obtain ⟨w, z⟩ := I.cell y c (mem e).1
    exact ⟨w, z.keeps kp⟩
  · have e : p = (h'.objs.size, ga) := by simpa using hp
    rw [e]
    refine ⟨Heap.get?_push_size _ hfr, I.hok.fresh (by rw [szh]; exact Nat.le_succ _), ?_, fun z => ?_, hga⟩
    · show h'.objs.size ≠ s.heap.objs.size
      rw [szh]; exact Nat.succ_ne_self _
    · have z1 : h'.objs.size ∈ frs X.stack := z
      obtain ⟨_, o, ho, _⟩ := I.stack.mem z1
      exact absurd (Heap.lt_size ho) (Nat.not_lt.mpr (by rw [szh]; exact Nat.le_succ _))
theorem inv_same {s' : Shared} (I : Inv X pins σ H s) (hh : s'.heap = s.heap) (ho : s'.os = s.os) (hg : AllBare s'.gens) : Inv X pins σ H s' :=
  I.call' (ch := []) ho (Un.kept fun b o e => by rw [hh]; exact e) (I.hok.kept fun b o e => by rw [hh]; exact e) hg (fun _ z => nomatch z)
end
section
variable {X : Cx} {s : Shared} {H : Hp} {cenv : Env} {fp : List Addr} {pins : List (Addr × Obj)} {σ0 : L2.St} {vs : List Nat}
/-- at a yield -/
def YA (Z : Cx) (pins : List (Addr × Obj)) (σw : L2.St) (fp : List Addr) (tn : Nat → Heap → Prop) (n₀ : Nat) (Pv : Nat → Hp → Prop) (Qf : Hp → Prop) : Protocol := fun m s₀ v s kap =>
  ∃ (i : Nat) (b : Bool) (H1 : Hp), m + 1 + i = n₀ ∧ v = .bool b ∧ Inv Z pins σw H1 s ∧ tn (i + 1) s.heap ∧ (∀ b ∈ fp, H1 b = none) ∧
    (b = true → Pv (i + 1) H1 ∧ ∀ s'' : Shared, s''.heap = s.heap → s''.os = s.os → AllBare s''.gens → kap (.send .none) s'') ∧ (b = false → Qf H1)
def RA (Z : Cx) (pins : List (Addr × Obj)) (σw : L2.St) (Qt : Hp → Prop) : Nat → Shared → Shared → Prop := fun n _ s₁ => n = 0 ∧ ∃ H1, Inv Z pins σw H1 s₁ ∧ Qt H1
theorem seg_allLoop {elt tg iter : Expr} {scope : Scope} {pos : Pos} {it : Addr} {J : It} {tn : Nat → Heap → Prop} {g : TG} {te : TE} {n₀ : Nat} {Pv : Nat → Hp → Prop} {Qt Qf : Hp → Prop}
    (hc : X.calm = true) (hfr : cenv.frame = some cenv.locals) (hco : cenv.scope.isCoroutine = false) (hpin : ∀ p ∈ pins, p.1 ∉ fp) (T : Turn X.prog X.w X.K tg J fp it tn) (pg : PG (gcx X s H cenv fp) tg g) (pe : PE (gcx X s H cenv fp) elt te)
    (step : ∀ i H1, i < n₀ → Pv i H1 → J.go i H1 ∧ ∀ x H', J.yld i H1 x H' → g x (wipe σ0 vs) H' fun σ2 H2 => wipe σ2 vs = wipe σ0 vs ∧ te σ2 H2 fun y H3 => ∃ b, y = .bl b ∧ (b = true → Pv (i + 1) H3) ∧ (b = false → Qf H3))
    (stop : ∀ H1, Pv n₀ H1 → J.stop n₀ H1 ∧ Qt H1) :
    ∀ (k i : Nat) (s₀ s5 : Shared) (H5 : Hp), n₀ - i = k → i ≤ n₀ → Inv (gcx X s H cenv fp) pins (wipe σ0 vs) H5 s5 → tn i s5.heap → (∀ b ∈ fp, H5 b = none) → Pv i H5 →
      Seg (model X.prog X.w) X.A.in1.in1 (fun n s₀ r s₁ => r = .ok .next ∧ RA (gcx X s H cenv fp) pins (wipe σ0 vs) Qt n s₀ s₁) (YA (gcx X s H cenv fp) pins (wipe σ0 vs) fp tn n₀ Pv Qf) k s₀
        (.compLoop (.GeneratorExp elt [⟨tg, iter, [], 0⟩] scope pos) 0 (.ref it) .none cenv)
        ((model X.prog X.w).den (.compLoop (.GeneratorExp elt [⟨tg, iter, [], 0⟩] scope pos) 0 (.ref it) .none cenv)) [] s5 := by
  have hov : (X.A.in1.in1).over (.compLoop (.GeneratorExp elt [⟨tg, iter, [], 0⟩] scope pos) 0 (.ref it) .none cenv) [] = (gcx X s H cenv fp).A := over_comp hfr
  have stat : ∀ {σ' : L2.St} {H' : Hp} {s' : Shared}, Inv (gcx X s H cenv fp) pins σ' H' s' → (∀ b ∈ fp, H' b = none) → ∀ b ∈ fp, FpOk (gcx X s H cenv fp) pins H' b := fun {σ' H' s'} I' hn b hb =>
    ⟨hn b hb, (I'.ok.exf b hb).1, I'.ok.exfs b hb, .inl hb, fun x c e => (I'.ok.exf b hb).2 x c e, fun p hp z => hpin p (by simpa using hp) (by rw [z]; exact hb)⟩
  intro k
  induction k with
  | zero =>
    intro i s₀ s5 H5 hk hi I5 st5 n5 hP
    have hin : i = n₀ := by omega
    subst hin
    obtain ⟨hs, hq⟩ := stop H5 hP
    show Seg _ X.A.in1.in1 _ _ _ s₀ _ ((compTurn (.GeneratorExp elt [⟨tg, iter, [], 0⟩] scope pos) 0 (.ref it) .none cenv).onRaise (leaving cenv)) [] s5
    rw [compTurn_gen, Sem.onRaise_eq_wrap]
    refine seg_bind_wrap (wpAny_standAt ?_)
    refine seg_bind_wrap ?_
    rw [hov]
    refine thnF (T.done (gcx X s H cenv fp) rfl rfl rfl hc i pins s5 _ H5 (fun _ _ => False) I5 (stat I5 n5) st5 hs) fun r s6 ⟨hr, I6⟩ => ?_
    subst hr
    exact seg_end (.ok .next) ⟨rfl, rfl, H5, I6, hq⟩
  | succ k ih =>
    intro i s₀ s5 H5 hk hi I5 st5 n5 hP
    have hlt : i < n₀ := by omega
    obtain ⟨hgo, hst⟩ := step i H5 hlt hP
    show Seg _ X.A.in1.in1 _ _ _ s₀ _ ((compTurn (.GeneratorExp elt [⟨tg, iter, [], 0⟩] scope pos) 0 (.ref it) .none cenv).onRaise (leaving cenv)) [] s5
    rw [compTurn_gen, Sem.onRaise_eq_wrap]
    refine seg_bind_wrap (wpAny_standAt ?_)
    refine seg_bind_wrap ?_
    rw [hov]
    refine thnF (T.item (gcx X s H cenv fp) rfl rfl rfl hc i pins s5 _ H5 (fun _ _ => False) I5 (stat I5 n5) st5 hgo) fun r s6 ⟨u, hr, h6⟩ => ?_
    subst hr
    refine seg_bind_wrap ?_
    rw [hov]
    refine thnF h6 fun _ s7 ⟨x, H7, I7, r7, y7, st7, n7⟩ => ?_
    have I7' := I7.pinned (stat I7 n7) (T.obj _ _ st7)
    refine seg_bind_wrap ?_
    rw [hov]
    refine thnF (pg.run _ s7 _ H7 x u _ I7' r7 (hst x H7 y7)) fun _ s8 ⟨σ8, H8, I8, hw8, q8⟩ => ?_
    refine seg_bind_wrap ?_
    rw [hov]
    simp only [List.forIn_nil]
    refine wpAny_pure ?_
    simp only [if_true]
    have hy : ∀ v, yieldOut cenv v = yieldValue v := fun v => by simp only [yieldOut, hco, Bool.false_eq_true, if_false]
    simp only [hy]
    rw [Sem.bind_eq_wrap', Sem.bind_eq_wrap', Sem.wrap_wrap, Sem.wrap_wrap]
    refine seg_wrap ?_
    rw [hov]
    refine thnF (pe.run _ s8 σ8 H8 _ I8 q8) fun y s9 ⟨yv, H9, I9, r9, b, ey, qt, qf⟩ => ?_
    subst ey
    obtain rfl : y = Value.bool b := r9
    have pin' : ∀ b ∈ fp, ∀ o, s7.heap.get? b = some o → s9.heap.get? b = some o ∧ H9 b = none := fun b hb o e =>
      let z := I9.pin (b, o) (List.mem_append_right _ (List.mem_append_right _ (mem_pinsAt hb e)))
      ⟨z.1, z.2.1⟩
    have st9 : tn (i + 1) s9.heap := T.keep _ _ _ st7 fun b hb o e => (pin' b hb o e).1
    have n9 : ∀ b ∈ fp, H9 b = none := fun b hb => by
      obtain ⟨o, e, _⟩ := T.obj _ _ st7 b hb
      exact (pin' b hb o e).2
    have I9' : Inv (gcx X s H cenv fp) pins (wipe σ0 vs) H9 s9 := by
      have hl : (wipe σ0 vs).length = σ8.length := by rw [← hw8, wipe_length]
      refine (I9.unpinned (pins := pins)).weak hl fun j v e => ?_
      rw [← hw8] at e
      exact (wipe_some e).1
    refine seg_at (seg_yield rfl rfl rfl ⟨i, b, H9, by omega, rfl, I9', st9, n9, fun hb => ⟨qt hb, fun s'' hh ho hg => ?_⟩, qf⟩)
    exact seg_again rfl (ih (i + 1) s'' s'' H9 (by omega) hlt (inv_same I9' hh ho hg) (by rw [hh]; exact st9) n9 (qt hb))
theorem seg_allStart {elt tg iter : Expr} {scope : Scope} {pos : Pos} {it : Addr} {J : It} {tn : Nat → Heap → Prop} {g : TG} {te : TE} {n₀ : Nat} {Pv : Nat → Hp → Prop} {Qt Qf : Hp → Prop}
    (hc : X.calm = true) (hfr : cenv.frame = some cenv.locals) (hco : cenv.scope.isCoroutine = false) (hpin : ∀ p ∈ pins, p.1 ∉ fp) (T : Turn X.prog X.w X.K tg J fp it tn) (pg : PG (gcx X s H cenv fp) tg g) (pe : PE (gcx X s H cenv fp) elt te)
    (step : ∀ i H1, i < n₀ → Pv i H1 → J.go i H1 ∧ ∀ x H', J.yld i H1 x H' → g x (wipe σ0 vs) H' fun σ2 H2 => wipe σ2 vs = wipe σ0 vs ∧ te σ2 H2 fun y H3 => ∃ b, y = .bl b ∧ (b = true → Pv (i + 1) H3) ∧ (b = false → Qf H3))
    (stop : ∀ H1, Pv n₀ H1 → J.stop n₀ H1 ∧ Qt H1) (s₀ s5 : Shared) (H5 : Hp) (I5 : Inv (gcx X s H cenv fp) pins (wipe σ0 vs) H5 s5) (st5 : tn 0 s5.heap) (n5 : ∀ b ∈ fp, H5 b = none) (hP : Pv 0 H5) :
      Seg (model X.prog X.w) X.A.in1.in1 (fun n s₀ r s₁ => r = .ok .next ∧ RA (gcx X s H cenv fp) pins (wipe σ0 vs) Qt n s₀ s₁) (YA (gcx X s H cenv fp) pins (wipe σ0 vs) fp tn n₀ Pv Qf) n₀ s₀
        (.compStart (.GeneratorExp elt [⟨tg, iter, [], 0⟩] scope pos) 0 (.ref it) .none cenv)
        ((model X.prog X.w).den (.compStart (.GeneratorExp elt [⟨tg, iter, [], 0⟩] scope pos) 0 (.ref it) .none cenv)) [] s5 := by
  have loop := seg_allLoop (iter := iter) (scope := scope) (pos := pos) hc hfr hco hpin T pg pe step stop n₀ 0 s₀ s5 H5 (Nat.sub_zero _) (Nat.zero_le _) I5 st5 n5 hP
  show Seg _ X.A.in1.in1 _ _ _ s₀ _ ((compStart (.GeneratorExp elt [⟨tg, iter, [], 0⟩] scope pos) 0 (.ref it) .none cenv).onRaise (leaving cenv)) [] s5
  unfold compStart
  rw [Sem.onRaise_eq_wrap]
  show Seg _ X.A.in1.in1 _ _ _ s₀ _ ((ask >>= _).wrap _ _ _ _) [] s5
  refine seg_bind_wrap (wpAny_askSetting ?_)
  split
  · exact seg_again rfl loop
  · first
      | exact seg_bind_wrap (wpAny_rule (seg_bind_wrap (wpAny_standAt (seg_bind_wrap (T.self _ 0 s5 _ _ st5 (seg_again rfl loop))))))
      | (refine seg_bind_wrap (wpAny_rule ?_); show Seg _ X.A.in1.in1 _ _ _ s₀ _ ((standAt iter.pos >>= _).wrap _ _ _ _) [] s5; exact seg_bind_wrap (wpAny_standAt (seg_bind_wrap (T.self _ 0 s5 _ _ st5 (seg_again rfl loop)))))
theorem allBare_set {gens : Array GenState} {g : Nat} {x : GenState} (h : AllBare gens) (hx : x.bare = true) : AllBare (gens.setIfInBounds g x) := fun y hy => by
  rcases Array.mem_or_eq_of_mem_setIfInBounds hy with z | z
  · exact h y z
  · rw [z]; exact hx
/-- the consumer's loop -/
theorem all_loop {a : Addr} {gi : Nat} {ga : Obj} {tn : Nat → Heap → Prop} {n₀ : Nat} {Pv : Nat → Hp → Prop} {Qt Qf : Hp → Prop} {kk : Nat} (hr : Room (kk + 1) X.A) (hpa : (a, ga) ∈ pins) (hga : ∃ nm qn, ga.cls = .type "generator" ∧ ga.data = .fields #[.int gi 0, nm, qn] ∧ ga.slots = #[]) :
    ∀ (k i : Nat) (s5 : Shared) (H5 : Hp) (gs : GenState), n₀ - i = k → i ≤ n₀ → Inv (gcx X s H cenv fp) pins (wipe σ0 vs) H5 s5 → s5.gens[gi]? = some gs →
      (∀ s'' : Shared, s''.heap = s5.heap → s''.os = s5.os → AllBare s''.gens → gs.Goes (model X.prog X.w) X.A.in1.in1 (fun n s₀ r s₁ => r = .ok .next ∧ RA (gcx X s H cenv fp) pins (wipe σ0 vs) Qt n s₀ s₁) (YA (gcx X s H cenv fp) pins (wipe σ0 vs) fp tn n₀ Pv Qf) k (.send .none) s'') →
      codeAny (model X.prog X.w) X.A (.builtin "all.loop" ⟨[.ref a], []⟩) (fun r s' => ∃ (b : Bool) (H1 : Hp), r = .ok (.ret (.bool b)) ∧ Inv (gcx X s H cenv fp) pins (wipe σ0 vs) H1 s' ∧ (b = true → Qt H1) ∧ (b = false → Qf H1)) s5 := by
  intro k
  induction k with
  | zero => 
    intro i s5 H5 gs hk hi I5 hgs hgo
    refine codeAny_builtin F.entry_all_loop ?_
    rw [Around.under_plainId F.plain_all_loop _]
    show wpAny _ X.A.in1 (pyNext (.ref a) >>= _) _ _ s5
    refine wpAny_bind ?_
    obtain ⟨nm, qn, c1, c2, c3⟩ := hga
    have hg : s5.heap.IsGen a gi := ⟨ga, nm, qn, (I5.pin _ (List.mem_append_right _ hpa)).1, c1, c2, c3⟩
    refine wpAny_pyNext_genexpQ (P := RA (gcx X s H cenv fp) pins (wipe σ0 vs) Qt) hr.hd I5.nolimit (by have := hr.dp; show X.A.depth < _; omega) hg hgs (hgo _ rfl rfl (allBare_set I5.bare rfl)) (fun v s₁ gs' hb hv => ?_) (fun s₁ hp h' hk' => ?_)
    · obtain ⟨i', b, H1, e1, rfl, I1, st1, n1, qt, qf⟩ := hv
      cases b with
      | true => exact (((qt rfl).2 _ rfl rfl I1.bare) : False).elim
      | false =>
        refine wpAny_bind (wpAny_holding (wpAny_truthy_bool ?_))
        refine wpAny_bind (wpAny_letGo ?_)
        simp only [Bool.false_eq_true, if_false]
        refine wpAny_bind (wpAny_rule (wpAny_pure ?_))
        exact ⟨false, H1, rfl, inv_same I1 rfl rfl (allBare_set I1.bare hb), fun z => absurd z Bool.false_ne_true, fun _ => qf rfl⟩
    · obtain ⟨_, H1, I1, q⟩ := hp
      refine wpAny_bind (wpAny_rule (wpAny_pure ?_))
      exact ⟨true, H1, rfl, inv_gens (I1.kept (t' := s₁.toks) hk') (allBare_set I1.bare rfl), fun _ => q, fun z => absurd z.symm Bool.false_ne_true⟩
  | succ k ih =>
    intro i s5 H5 gs hk hi I5 hgs hgo
    refine codeAny_builtin F.entry_all_loop ?_
    rw [Around.under_plainId F.plain_all_loop _]
    show wpAny _ X.A.in1 (pyNext (.ref a) >>= _) _ _ s5
    refine wpAny_bind ?_
    obtain ⟨nm, qn, c1, c2, c3⟩ := id hga
    have hg : s5.heap.IsGen a gi := ⟨ga, nm, qn, (I5.pin _ (List.mem_append_right _ hpa)).1, c1, c2, c3⟩
    have hsz : gi + 1 ≤ s5.gens.size := (Array.getElem?_eq_some_iff.mp hgs).1
    refine GenW.wpAny_gsz hsz ?_
    refine wpAny_pyNext_genexpQ (P := RA (gcx X s H cenv fp) pins (wipe σ0 vs) Qt) hr.hd I5.nolimit (by have := hr.dp; show X.A.depth < _; omega) hg hgs (hgo _ rfl rfl (allBare_set I5.bare rfl)) (fun v s₁ gs' hb hv => ?_) (fun s₁ hp h' hk' => ?_)
    · obtain ⟨i', b, H1, e1, rfl, I1, st1, n1, qt, qf⟩ := hv
      intro hs2
      refine wpAny_bind (wpAny_holding (wpAny_truthy_bool ?_))
      refine wpAny_bind (wpAny_letGo ?_)
      cases b with
      | true =>
        simp only [if_true]
        refine wpAny_pure ⟨plainId_quiet F.plain_all_loop _, ?_⟩
        refine ih (i + 1) _ H1 gs' (by omega) (by omega) (inv_same I1 rfl rfl (allBare_set I1.bare hb)) ?_ fun s'' hh ho hg => ?_
        · show (s₁.gens.setIfInBounds gi gs')[gi]? = some gs'
          have hlt : gi < s₁.gens.size := by
            have : gi + 1 ≤ (s₁.gens.setIfInBounds gi gs').size := hs2
            rw [Array.size_setIfInBounds] at this
            exact this
          rw [Array.getElem?_setIfInBounds_self, if_pos hlt]
        · exact (qt rfl).2 s'' hh ho hg
      | false =>
        simp only [Bool.false_eq_true, if_false]
        refine wpAny_bind (wpAny_rule (wpAny_pure ?_))
        exact ⟨false, H1, rfl, inv_same I1 rfl rfl (allBare_set I1.bare hb), fun z => absurd z Bool.false_ne_true, fun _ => qf rfl⟩
    · exact absurd hp.1 (Nat.succ_ne_zero _)
end
def tAllG (P : Addr) (wi : TI) (g : TG) (te : TE) (vs : List Nat) : TE := fun σ H Q => wi σ H fun J H1 => TabG H1 P ∧ ∃ (n₀ : Nat) (Pv : Nat → Hp → Prop), (∀ H2, Tabbed P H1 H2 → Pv 0 H2) ∧
  (∀ i H1, i < n₀ → Pv i H1 → J.go i H1 ∧ ∀ x H', J.yld i H1 x H' → g x (wipe σ vs) H' fun σ2 H2 => wipe σ2 vs = wipe σ vs ∧ te σ2 H2 fun y H3 => ∃ b, y = .bl b ∧ (b = true → Pv (i + 1) H3) ∧ (b = false → Q (.bl false) H3)) ∧
  ∀ H1, Pv n₀ H1 → J.stop n₀ H1 ∧ Q (.bl true) H1
section
variable {X : Cx}
theorem pe_allG {c P : Addr} {elt tg iter : Expr} {p pos gpos : Pos} {scope : Scope} {own : List (Str × Nat)} {wi : TI} {g : TG} {te : TE} {kk : Nat}
    (hr : Room (kk + 3) X.A) (hc : X.calm = true) (hN : X.N.Nodup) (hg : Gl X "all") (hm : X.mg "all" = none) (TB : TabB X.base X.mg c P) (hcode : X.env.code = .ref c) (hco : scope.isCoroutine = false) (hcell : ∀ y ∈ scope.names, y.2 ≠ .cell)
    (hdot : scope.names.lookup (".0" : Str) = some NameKind.local) (hi : PI X tg iter wi) (ok : BlkOk X.N X.env.scope scope own) (hpg : ∀ (s : Shared) (H : Hp) (C : Addr) (code : Value) (fp : List Addr), PG (gcx X s H (genv X scope C code) fp) tg g)
    (hpe : ∀ (s : Shared) (H : Hp) (C : Addr) (code : Value) (fp : List Addr), Room kk (gcx X s H (genv X scope C code) fp).A → PE (gcx X s H (genv X scope C code) fp) elt te) (hs : ∀ v, genFold iter X.env v = pure v := by intro _; rfl) (hb : bootBuiltins "all" = some (.builtin "all") := by decide +kernel)
    (he : starEach [.GeneratorExp elt [⟨tg, iter, [], 0⟩] scope gpos] X.env = (false, eval (.GeneratorExp elt [⟨tg, iter, [], 0⟩] scope gpos) X.env) :: starEach [] X.env := by rfl) :
    PE X (.Call (.Name "all" p) [.GeneratorExp elt [⟨tg, iter, [], 0⟩] scope gpos] [] pos) (tAllG P wi g te (own.map (·.2))) := by
  refine ⟨fun pins s σ H Q I h => ?_⟩
  refine wpAny_Call_Name_kw (ld_blt I hg hm hb ?_)
  refine PyProof.Rows.callWith_builtin1 ?_ he (by rfl)
  rw [he]
  show wpAny _ _ (spliced ((false, eval (.GeneratorExp elt [⟨tg, iter, [], 0⟩] scope gpos) X.env) :: backTo pos (starEach [] X.env))) _ _ s
  have hfree : ∀ y ∈ scope.names, y.2 = .free → ∃ c, X.env.cells.lookup y.1 = some c := fun y hy e => by
    rcases ok.free y hy e with k | k
    · exact I.ok.has _ (.inl k)
    · exact I.ok.has _ (.inr k)
  refine Calls.spliced_cons (wpAny_GeneratorExp_make hco (closure_ok hfree) hcell hdot ok.kind (by have := hr.dp; omega) ?_ hs)
  refine thn (hi.run pins s σ H _ I h) fun xv s1 hx => thn hx fun itv s2 h2 => ?_
  obtain ⟨it, fp, tn, J, H2, e, I2, T, st2, f2, ⟨ps, hP, ht⟩, n₀, Pv, q0, qs, qe⟩ := h2
  subst e
  refine ⟨I2.nolimit, ?_⟩
  have hPs : s2.heap.get? P = some { cls := .none, data := .fields ps } := I2.hok P _ hP
  have cd : PySem.W.CodeHd s2.heap c P := TB.code.keeps fun b u e => I2.bk b u e
  have nP : ∀ b, H2 b = none → b ≠ P := fun b e z => by rw [z, hP] at e; cases e
  have cont : ∀ (code : Value) (h3 : Heap) (tk : Nat) (ps' : Array Value), Heap.ExtBut P s2.heap h3 → s2.heap.objs.size ≤ h3.objs.size → h3.get? P = some { cls := .none, data := .fields ps' } → (∃ more, ps' = ps ++ more) → TriplesOk ps'.toList →
      wpAny (model X.prog X.w) X.A (builtinsFor X.env.globals X.env.builtins) (fun bi s₄ =>
        ∀ h', h'.Ns s₄.heap.objs.size (fun y => if y = ".0" then some (.ref it) else none) → Heap.SameBut s₄.heap.objs.size (s₄.heap.push { cls := .type "frame", data := .dict #[] }) h' →
          wpAny (model X.prog X.w) X.A (spliced (backTo pos (starEach [] X.env))) (fun us s5 => wpAny (model X.prog X.w) X.A (call (.builtin "all") (.ref h'.objs.size :: us)) (EP X pins σ Q) X.xe s5) X.xe ({ s₄ with gens := s₄.gens.push (.fresh (.compStart (.GeneratorExp elt [⟨tg, iter, [], 0⟩] scope gpos) 0 (.ref it) .none (genEnv scope (cloFrom X.env.cells scope.names []) s₄.heap.objs.size code bi X.env))), toks := s₄.toks + 1 + 1 + 1, heap := h'.push { cls := .type "generator", data := .fields #[.int s₄.gens.size 0, .str "<genexpr>" (s₄.toks + 1), .str (X.env.qual ++ "<genexpr>") (s₄.toks + 1 + 1)] } } : Shared)) X.xe { s2 with heap := h3, toks := tk } := by
    intro code h3 tk ps' hx hsz hP3 hmore ht3
    obtain ⟨bm, ob, e1, e2, e3, e4, e5, e6, e7, e8⟩ := TB.bm
    obtain ⟨more, em⟩ := hmore
    subst em
    have keep3 : ∀ b u, b ≠ P → s2.heap.get? b = some u → h3.get? b = some u := fun b u hb e => hx b u hb e
    refine wpAny_builtinsFor (m := X.mg) (by rw [I2.ok.glob]; exact (I2.mod.glob.keeps I2.bk).extBut hx TB.gP) e1 e2 (keep3 _ _ e4 (I2.bk _ _ e5)) e6 e7 e8 ?_
    have I4 : Inv X pins σ (upd H2 P (.tbl (ps ++ more))) { s2 with heap := h3, toks := tk } := GxR.inv_tab (more := more) (h' := h3) (g' := s2.gens) (d' := s2.drawn) (t' := tk) I2 hP keep3 hP3 I2.bare
    generalize hs4 : ({ s2 with heap := h3, toks := tk } : Shared) = s4 at I4 ⊢
    have e4h : s4.heap = h3 := by rw [← hs4]
    intro h' hn' hs'
    have tb : Tabbed P H2 (upd H2 P (.tbl (ps ++ more))) := ⟨⟨ps ++ more, upd_same, ht3⟩, fun b hb => upd_ne hb⟩
    have hfp4 : ∀ b ∈ fp, FpOk X pins (upd H2 P (.tbl (ps ++ more))) b ∧ b < s4.heap.objs.size := fun b hb => by
      obtain ⟨o, e, _⟩ := T.obj _ _ st2 b hb
      refine ⟨⟨?_, (f2 b hb).2⟩, by rw [e4h]; exact Nat.lt_of_lt_of_le (Heap.lt_size e) hsz⟩
      rw [upd_ne (nP b (f2 b hb).1)]
      exact (f2 b hb).1
    have szh : h'.objs.size = s4.heap.objs.size + 1 := by rw [hs'.1, Heap.size_push]
    have I5 := gen_start (code := code) (ga := { cls := .type "generator", data := .fields #[.int s4.gens.size 0, .str "<genexpr>" (s4.toks + 1), .str (X.env.qual ++ "<genexpr>") (s4.toks + 1 + 1)] }) (t' := s4.toks + 1 + 1 + 1)
      (g' := s4.gens.push (.fresh (.compStart (.GeneratorExp elt [⟨tg, iter, [], 0⟩] scope gpos) 0 (.ref it) .none (genEnv scope (cloFrom X.env.cells scope.names []) s4.heap.objs.size code builtinsNs X.env)))) I4 ok hN hc hcell hfp4 hn' hs' (fun v z => by cases z) rfl (I4.bare.push rfl)
    generalize hs5 : ({ s4 with gens := s4.gens.push (.fresh (.compStart (.GeneratorExp elt [⟨tg, iter, [], 0⟩] scope gpos) 0 (.ref it) .none (genEnv scope (cloFrom X.env.cells scope.names []) s4.heap.objs.size code builtinsNs X.env))), toks := s4.toks + 1 + 1 + 1, heap := h'.push { cls := .type "generator", data := .fields #[.int s4.gens.size 0, .str "<genexpr>" (s4.toks + 1), .str (X.env.qual ++ "<genexpr>") (s4.toks + 1 + 1)] } } : Shared) = s5 at I5 ⊢
    have e5h : s5.heap = h'.push { cls := .type "generator", data := .fields #[.int s4.gens.size 0, .str "<genexpr>" (s4.toks + 1), .str (X.env.qual ++ "<genexpr>") (s4.toks + 1 + 1)] } := by rw [← hs5]
    have st5 : tn 0 s5.heap := by
      refine T.keep _ _ _ st2 fun b hb o e => ?_
      rw [e5h]
      refine Heap.get?_push_of_some _ (hs'.extBut b o (Nat.ne_of_lt (hfp4 b hb).2) (Heap.get?_push_of_some _ ?_))
      rw [e4h]
      exact keep3 b o (nP b (f2 b hb).1) e
    have n5 : ∀ b ∈ fp, (upd H2 P (.tbl (ps ++ more))) b = none := fun b hb => (hfp4 b hb).1.1
    have hpin : ∀ p ∈ [(h'.objs.size, ({ cls := .type "generator", data := .fields #[.int s4.gens.size 0, .str "<genexpr>" (s4.toks + 1), .str (X.env.qual ++ "<genexpr>") (s4.toks + 1 + 1)] } : Obj))], p.1 ∉ fp := fun p hp hb => by
      rw [List.mem_singleton.mp hp] at hb
      have := (hfp4 _ hb).2
      rw [szh] at this
      exact absurd this (Nat.not_lt.mpr (Nat.le_succ _))
    refine Calls.spliced_nil ?_
    refine call_function_tree F.kind_all F.plain_all F.entry_all (F.args_all1 _) ?_
    unfold Builtin.«all»
    refine wpAny_bind (m := oneArg "all" _) (wpAny_pure ?_)
    have hisg : s5.heap.IsGen h'.objs.size s4.gens.size := by
      rw [e5h]
      exact ⟨_, _, _, Heap.get?_push_size _ rfl, rfl, rfl, rfl⟩
    refine wpAny_bind (wpAny_pyIter_gen hisg ?_)
    have hgens : s5.gens[s4.gens.size]? = some (.fresh (.compStart (.GeneratorExp elt [⟨tg, iter, [], 0⟩] scope gpos) 0 (.ref it) .none (genEnv scope (cloFrom X.env.cells scope.names []) s4.heap.objs.size code builtinsNs X.env))) := by
      rw [← hs5]
      exact Array.getElem?_push_size ..
    refine wpAny_pure ⟨plainId_quiet F.plain_all_loop _, ?_⟩
    have pg := hpg s4 (upd H2 P (.tbl (ps ++ more))) s4.heap.objs.size code fp
    have pe := hpe s4 (upd H2 P (.tbl (ps ++ more))) s4.heap.objs.size code fp ((hr.in1.in1).deeper _)
    refine codeAny_mono (all_loop (Pv := Pv) (Qt := Q (.bl true)) (Qf := Q (.bl false)) (n₀ := n₀) (tn := tn) (kk := kk + 2) hr (List.mem_singleton.mpr rfl) ⟨_, _, rfl, rfl, rfl⟩ n₀ 0 s5 _ _ (Nat.sub_zero _) (Nat.zero_le _) I5 hgens fun s'' hh ho hgb => ⟨rfl, ?_⟩) fun r s' ⟨b, H1, er, I', qt, qf⟩ => ?_
    · exact seg_allStart (iter := iter) (scope := scope) (pos := gpos) hc rfl hco hpin T pg pe qs qe s'' s'' _ (inv_same I5 hh ho hgb) (by rw [hh]; exact st5) n5 (q0 _ tb)
    · subst er
      have IX : Inv X pins σ H1 s' := I4.call' (ch := fp) I'.os I'.base I'.hok I'.bare fun b hb => ⟨(hfp4 b hb).1.2.2.2.1, (hfp4 b hb).1.2.1, (hfp4 b hb).1.2.2.2.2.1, (hfp4 b hb).1.2.2.2.2.2⟩
      refine ⟨.bl b, H1, IX, rfl, ?_⟩
      cases b with
      | true => exact qt rfl
      | false => exact qf rfl
  cases hf : codeAmong gpos ps.toList with
  | none =>
    refine wpAny_genexprCodeX hcode (cd.code hPs ht) (cd.tab hPs) hf fun c' h' tk hx hge hlt hco' _ htab' _ => ?_
    obtain ⟨o1, vs, f1, tf, fl, tg, inF, tx, tt, op, _, _, _, _, _, _, _, _, _, htr, _⟩ := hco'
    exact cont _ h' tk _ hx (Nat.le_trans hge (Nat.le_of_lt hlt)) htab'.2 ⟨_, rfl⟩ htr
  | some cv =>
    refine wpAny_genexprCode_hit hcode (cd.code hPs ht) hf ?_
    exact cont cv s2.heap s2.toks ps (Heap.ExtBut.refl _ _) (Nat.le_refl _) hPs ⟨#[], by simp⟩ ht
end
end K2
/-! R2: more rules: x in a tuple of data; X() of an own error; sets of ints made of a list. -/
namespace K2
open PySem PySem.Spec PyProof.Rows L2
theorem hu65 {A : Around} {k : Nat} (hr : Room k A) : A.units + 65 < cLine := Nat.lt_of_le_of_lt (by omega : A.units + 65 ≤ A.units + 16 * k + 200) hr.un
section
variable {X : Cx}
/-! ### x in t, x not in t, t a tuple of data -/
def rInTD (K : PySem.W.Frag) : R2 := fun x y H Q => ∃ d ds, Dp K H x d ∧ Dp K H y (.tuple ds) ∧ SeqAt.shaped d = true ∧ SeqAt.shaped (.tuple ds) = true ∧ Q (.bl (ds.any fun z => PyData.eqv z d)) H
def rNotInTD (K : PySem.W.Frag) : R2 := fun x y H Q => ∃ d ds, Dp K H x d ∧ Dp K H y (.tuple ds) ∧ SeqAt.shaped d = true ∧ SeqAt.shaped (.tuple ds) = true ∧ Q (.bl (!ds.any fun z => PyData.eqv z d)) H
theorem room_inT {d : PyData} {ds : List PyData} {u : Nat} (sd : SeqAt.shaped d = true) (hu : u + 65 < cLine) : u + 1 + min (PyData.depthAll ds) d.depth < cLine := by
  have := SeqAt.depth_of_shaped sd
  omega
theorem op_inTD (hu : X.A.units + 65 < cLine) : OpR X (compareOp .In) (rInTD X.K) := by
  intro pins s σ H x y v u Q I rx ry ⟨d, ds, hd, he, sd, se, q⟩
  obtain ⟨as, r1⟩ := Dp.reads I d x v hd rx
  obtain ⟨bs, r2⟩ := Dp.reads I (.tuple ds) y u he ry
  exact SeqAt.in_tuple_reads r2 r1 (SeqAt.canLay_of_shaped se) (SeqAt.canLay_of_shaped sd) (room_inT sd hu) ⟨.bl _, H, I, rfl, q⟩
theorem op_notInTD (hu : X.A.units + 65 < cLine) : OpR X (compareOp .NotIn) (rNotInTD X.K) := by
  intro pins s σ H x y v u Q I rx ry ⟨d, ds, hd, he, sd, se, q⟩
  obtain ⟨as, r1⟩ := Dp.reads I d x v hd rx
  obtain ⟨bs, r2⟩ := Dp.reads I (.tuple ds) y u he ry
  exact SeqAt.notIn_tuple_reads r2 r1 (SeqAt.canLay_of_shaped se) (SeqAt.canLay_of_shaped sd) (room_inT sd hu) ⟨.bl _, H, I, rfl, q⟩
/-! ### X() -/
theorem pmk_own0 {C : Addr} {bmB : List Value} {B newId initId : String} {x : Str} {p pos : Pos} (F : ExcBaseFacts B newId initId bmB) (q : PySem.W.excIn X.K C bmB newId = true) (gC : X.mg x = some (.ref C)) (kC : PySem.W.keepIn X.K (.ref C) = true) (r : Raises X (.ref C)) (hg : Gl X x)
    (hdb : (x == ("__debug__" : Str)) = false := by decide) : PMk X (.Call (.Name x p) [] [] pos) (fun _ H Q => Q (.ref C) none H) := by
  intro pins s σ H Q I h
  refine wpAny_Call_Name_kw (ld_glob I hg gC ?_ hdb)
  refine PySem.W.callWith_K0 I.kIn kC ?_
  show wpAny _ _ (call (.ref C) []) _ _ _
  obtain ⟨bm, N, nm, qn, bs, hdct, sn, sub, ab, col, dd, k0, k1, k2, k3, k5, mN, hC, hN, hni, T⟩ := exc_obj I.kIn q
  exact wpAny_call_exc_subT F T hC hN hni (fun h' e hm => mk_of I hm r h (I.hok.gone hm.new)) (Nat.zero_le _)
end
end K2
/-! R3: sets of ints made of a list. -/
namespace K2
open PySem PySem.Spec PyProof.Rows L2
/-! ### set(xs), xs a list of ints -/
section
variable {P : Program} {w : World} {A : Around} {E : Value → Shared → Prop} {s : Shared}
set_option maxRecDepth 100000 in
set_option maxHeartbeats 3200000 in
theorem call_set_listI {l : Addr} {items : Array Value} (ns : List Int) {Q : Value → Shared → Prop} (hh : A.handled = none) (hl : s.heap.IsList l items) (hit : IntsAre items.toList ns) (hb : ns.length + 1 < scanBound)
    (h : ∀ (h' : Heap) (tk c : Nat), SetR w h' s.heap.objs.size (fun j => decide (j ∈ ns)) c → c ≤ ns.length → (∀ b o, s.heap.get? b = some o → h'.get? b = some o) → Q (.ref s.heap.objs.size) { s with heap := h', toks := tk }) :
    wpAny (model P w) A (call (.type "set") [.ref l]) Q E s := by
  have hisz : items.size = ns.length := by
    have q := IntsAre.length hit
    rw [Array.length_toList] at q
    exact q
  obtain ⟨c, tl, hmro⟩ := F.called_set.mro
  have hmade := F.called_set.made
  have hsub := F.called_set.sub
  refine wpAny_call (codeAny_of_tree ?_)
  show wpAny _ _ (callAny (.type "set") _) _ _ _
  refine wpAny_pure ⟨Code.quiet_builtin _ (by decide +kernel), codeAny_builtin F.entry_type_call ?_⟩
  rw [Around.under_plain (weight_type_call_type "set" [.ref l] []) rfl]
  have h1 := F.called_set.notType
  have h2 := F.called_set.canCreate
  have hct := F.typeCall_set_1 (.ref l)
  repeat (any_goals (first | assumption | wp_step))

  refine codeAny_mono (code_set_led1 (.ref l) (E := E) (Q₁ := fun obj s₁ => obj = .ref s.heap.objs.size ∧ s₁ = { s with heap := s.heap.push { cls := .type "set", dict := none, data := .set #[] 0 (.fresh 0 0 (!w.params.followText "set-order")) } }) ⟨rfl, rfl⟩) fun r s₁ hr => ?_
  cases r with
  | error e => exact hr
  | ok fl =>
    cases fl with
    | ret obj =>
      obtain ⟨rfl, rfl⟩ := hr
      have hS : (s.heap.push { cls := .type "set", dict := none, data := .set #[] 0 (.fresh 0 0 (!w.params.followText "set-order")) }).get? s.heap.objs.size = some { cls := .type "set", dict := none, data := .set #[] 0 (.fresh 0 0 (!w.params.followText "set-order")) } := Heap.get?_push_size _ rfl
      have hT : Shared.TypeIs { s with heap := s.heap.push { cls := .type "set", dict := none, data := .set #[] 0 (.fresh 0 0 (!w.params.followText "set-order")) } } (.ref s.heap.objs.size) "set" := ⟨_, hS, rfl⟩
      have hli := F.called_set.init.lookup
      have hbi := F.called_set.init.bind (.ref s.heap.objs.size)
      repeat (any_goals (first | assumption | wp_step))

      refine codeAny_mono (codeAny_call_builtin (R := wants (fun r s₂ => r = .none ∧ ∃ h' tk c, s₂ = { s with heap := h', toks := tk } ∧ SetR w h' s.heap.objs.size (fun j => decide (j ∈ ns)) c ∧ c ≤ ns.length ∧
          (∀ b o, s.heap.get? b = some o → h'.get? b = some o)) E) F.called_set.init.plain F.entry_set_init (check_set_init_1 hT ?_)) fun r₂ s₂ hr₂ => ?_
      · obtain ⟨ol, hol, hcl, nl, hdl⟩ := hl
        obtain ⟨ocls, odict, odata, oslots⟩ := ol
        simp only at hcl hdl
        subst hcl; subst hdl
        have hol' : (s.heap.push { cls := .type "set", dict := none, data := .set #[] 0 (.fresh 0 0 (!w.params.followText "set-order")) }).get? l = some { cls := .type "list", dict := odict, data := .seq items nl, slots := oslots } := Heap.get?_push_of_some _ hol
        have hsls := F.sub_list_set
        have hslf := F.sub_list_frozenset
        have hne : (Value.type "list" == Value.type "dict") = false := by decide
        have hl1 : (s.heap.push { cls := .type "set", dict := none, data := .set #[] 0 (.fresh 0 0 (!w.params.followText "set-order")) }).IsList l items := ⟨_, hol', rfl, nl, rfl⟩
        unfold Builtin.«set.__init__» noKeywords Builtin.Frozenset.updateFrom
        generalize hPI : pyIter = PI
        wp_walk
        subst hPI

        refine wpAny_pyIter_list hl1 ?_
        refine wpAny_bind (wpAny_runValue ?_)
        have hlS : l < s.heap.objs.size := Heap.lt_size hol
        have hh3 : A.in1.in1.in1.handled = none := by simp [hh]
        have hz1 : (s.heap.push { cls := .type "set", dict := none, data := .set #[] 0 (.fresh 0 0 (!w.params.followText "set-order")) }).objs.size = s.heap.objs.size + 1 := Heap.size_push ..
        have hneI : l ≠ (s.heap.push { cls := .type "set", dict := none, data := .set #[] 0 (.fresh 0 0 (!w.params.followText "set-order")) }).objs.size := by
          rw [Heap.size_push]; exact Nat.ne_of_lt (Nat.lt_succ_of_lt hlS)
        have hSf : s.heap.objs.size ∉ [(s.heap.push { cls := .type "set", dict := none, data := .set #[] 0 (.fresh 0 0 (!w.params.followText "set-order")) }).objs.size, l] := by
          rw [Heap.size_push]; simp only [List.mem_cons, List.mem_singleton, List.not_mem_nil, or_false, not_or]
          exact ⟨Nat.ne_of_lt (Nat.lt_succ_self _), Nat.ne_of_gt hlS⟩
        have hval : ∀ (i : Nat) (v : Value), items[i]? = some v → ∃ k t, ns[i]? = some k ∧ v = .int k t := fun i v hv => by
          have hi : i < ns.length := by rw [← hisz]; exact (Array.getElem?_eq_some_iff.mp hv).1
          obtain ⟨t, e⟩ := PyProof.Rows.IntsAre.int_at hit i v (by rw [Array.getElem?_toList]; exact hv)
          refine ⟨ns[i], t, List.getElem?_eq_getElem hi, ?_⟩
          rw [e, List.getD_eq_getElem?_getD, List.getElem?_eq_getElem hi] <;> rfl
        refine set_update_ints ((Walks.list hh3 _ l hneI items).toS) s.heap.objs.size
          hSf ns hisz hb hval (items.size - 0) 0 _ (by omega) (Nat.zero_le _)
          ⟨⟨_, Heap.get?_push_size _ rfl, rfl, rfl⟩, (hl1.push _)⟩ ?hS0 ?hR
        case hS0 =>
          have hget : ((s.heap.push { cls := .type "set", dict := none, data := .set #[] 0 (.fresh 0 0 (!w.params.followText "set-order")) }).push { cls := .type "list_iterator", data := .fields #[.ref l, .int 0 0] }).get? s.heap.objs.size
              = some { cls := .type "set", dict := none, data := .set #[] 0 (.fresh 0 0 (!w.params.followText "set-order")) } := Heap.get?_push_of_some _ hS
          exact ⟨0, Nat.le_refl 0, setR_new_at hget⟩
        case hR =>
          intro s' c' hm hc' hS'
          obtain ⟨h', g2, d', tk', os'⟩ := s'
          have eg : g2 = s.gens := hm.gens
          have ed : d' = s.drawn := hm.drawn
          have eo : os' = s.os := hm.os
          subst eg; subst ed; subst eo
          show wpAny _ _ _ _ _ _
          refine wpAny_pure ?_
          show wpAny _ _ (ret Value.none) _ _ _
          rw [hisz] at hc'
          refine wpAny_pure ⟨rfl, h', tk', c', rfl, hS', hc', fun b o e => ?_⟩
          have hb0 : b < s.heap.objs.size := Heap.lt_size e
          have hb1 : b ≠ s.heap.objs.size := Nat.ne_of_lt hb0
          have hb2 : b ≠ (s.heap.push { cls := .type "set", dict := none, data := .set #[] 0 (.fresh 0 0 (!w.params.followText "set-order")) }).objs.size := by
            rw [Heap.size_push]; exact Nat.ne_of_lt (Nat.lt_succ_of_lt hb0)
          exact hm.heap b o (by simp only [List.mem_cons, List.mem_singleton, List.not_mem_nil, or_false, not_or]; exact ⟨hb1, hb2⟩) (Heap.get?_push_of_some _ (Heap.get?_push_of_some _ e))

      · cases r₂ with
        | error e => exact hr₂
        | ok fl₂ =>
          cases fl₂ with
          | ret r =>
            obtain ⟨rfl, h', tk, c', rfl, hS', hc', hk'⟩ := hr₂
            repeat (any_goals (first | assumption | wp_step))
            exact h _ _ _ hS' hc' hk'
          | _ => exact hr₂.elim
    | _ => exact hr.elim

end
end K2
/-! R4: len(set(xs)), set(xs) of a list of ints; sorted(d) of a dict by pairs. -/
namespace K2
open PySem PySem.Spec PyProof.Rows L2
section
variable {X : Cx}
theorem keys_set {P : Program} {w : World} {h : Heap} {a : Addr} {S : Int → Bool} {c : Nat} (R : SetR w h a S c) : ∃ m : List Int, m.Nodup ∧ (∀ k, k ∈ m ↔ S k = true) ∧ m.length = c := by
  obtain ⟨o, es, ep, t, ho, hx, hd, hg, nd, hm, hb, hf, hn, _⟩ := R
  exact ⟨_, nd, fun k => (hm k).symm, by rw [List.length_map, Array.length_toList]; exact hn⟩
def tLenSet (K : PySem.W.Frag) (ta : TE) : TE := fun σ H Q => ta σ H fun x H1 => ∃ (l : Addr) (ns : List Int), x = V.ref l ∧ SqL K H1 l (ns.map V.int) ∧ ns.length < 64 ∧ ∀ m : List Int, m.Nodup → (∀ k, k ∈ m ↔ k ∈ ns) → Q (.int m.length) H1
theorem pe_lenSet {a : Expr} {ta : TE} {p p2 q pos : Pos} (hc : X.calm = true) (hg : Gl X "len") (hm : X.mg "len" = none) (hg2 : Gl X "set") (hm2 : X.mg "set" = none) (ha : PE X a ta)
    (na : starEach [a] X.env = (false, eval a X.env) :: starEach [] X.env := by rfl) : PE X (.Call (.Name "len" p) [.Call (.Name "set" p2) [a] [] q] [] pos) (tLenSet X.K ta) := by
  refine ⟨fun pins s σ H Q I h => ?_⟩
  refine Call_ (ld_blt I hg hm PySem.boot_len ?_)
  refine PyProof.Rows.callWith_builtin1 (PyProof.Rows.args_cons ?_ rfl) rfl rfl
  refine Call_ (ld_blt I hg2 hm2 PyProof.Rows.boot_set ?_)
  refine PyProof.Rows.callWith_type1 (PyProof.Rows.args_cons (thn (ha.run pins s σ H _ I h) fun v s1 ⟨x, H1, I1, r1, q1⟩ => PyProof.Rows.args_nil ?_) na) na rfl
  obtain ⟨l, ns, rfl, hq, h1, q1⟩ := q1
  cases r1
  obtain ⟨its, r, pl, hz⟩ := I1.list hq
  refine call_set_listI (ns := ns) (I1.ok.hd hc) pl.isList (by simpa using r.ints) (by unfold scanBound; omega) fun h' tk c hS hc hk => ?_
  refine PyProof.Rows.args_nil ?_
  obtain ⟨m, nd, hmem, hlen⟩ := keys_set (P := X.prog) hS
  obtain ⟨o, es, ep, t, ho, hex, hd, _, _, _, _, hf, hn, _⟩ := hS
  have I2 : Inv X pins σ H1 { s1 with heap := h', toks := tk } := I1.kept fun b o e => hk b o e
  refine call_len_set ho hex hd hf (by rw [hn] <;> omega) ⟨.int m.length, H1, I2.tok _, ⟨_, by rw [hlen, ← hn]⟩, q1 m nd fun k => ?_⟩
  rw [hmem k]
  exact decide_eq_true_iff
def rSetOfI (w : World) (K : PySem.W.Frag) : List V → Hp → VK → Prop := fun vs H Q => ∃ (l : Addr) (ns : List Int), vs = [V.ref l] ∧ SqL K H l (ns.map V.int) ∧ ns.length < 64 ∧ ∀ p n, H p = none → n ≤ ns.length → Q (.ref p) (upd H p (SetO w p (fun j => decide (j ∈ ns)) n))
theorem cr_setOfI (hc : X.calm = true) : CallR X (.type "set") (rSetOfI X.w X.K) := by
  intro pins s σ H vs us Q I r h
  obtain ⟨l, ns, rfl, hq, h1, q⟩ := h
  rw [Vals.ref1 r]
  obtain ⟨its, r, pl, hz⟩ := I.list hq
  refine call_set_listI (ns := ns) (I.ok.hd hc) pl.isList (by simpa using r.ints) (by unfold scanBound; omega) fun h' tk c hS hc hk => ?_
  exact ⟨.ref _, _, I.laid (t' := tk) hk (Nat.le_refl _) (setO_new hS), rfl, q _ c (I.hok.fresh (Nat.le_refl _)) hc⟩
end
/-! ### sorted(d) -/
section
variable {prog : Program} {w : World} {A : Around} {E : Value → Shared → Prop} {s : Shared}
theorem sorted_kdl {T : String} {r d : Addr} {n : Nat} {P : Nat → Value → Prop} {OK : Heap → Prop} {k : Value → Int × Int} {Q : Value → Shared → Prop} (K : PySem.W.KdlSrc prog w T r d n P OK) (hh : A.handled = none) (hok : OK s.heap) (hn : n ≤ sizeLine)
    (hp : ∀ j v, P j v → Srt.IsPair s.heap v (k v).1 (k v).2)
    (h : ∀ (h' : Heap) (tk : Nat) (D : Addr) (vs out : List Value), SrtO.Srtd (fun v u => SrtO.lexB (k v) (k u)) out → SrtO.Stb (fun v u => SrtO.lexB (k v) (k u)) out vs → vs.length = n → (∀ (j : Nat) (v : Value), vs[j]? = some v → P j v) → (∀ b o, s.heap.get? b = some o → h'.get? b = some o) → (∃ h1 : Heap, (∀ b o, s.heap.get? b = some o → h1.get? b = some o) ∧ D = h1.objs.size) → (∃ n, h'.get? D = some (seqObj "list" out.toArray n)) → Q (.ref D) { s with heap := h', toks := tk }) :
    wpAny (model prog w) A (call (.builtin "sorted") [.ref r]) Q E s := by
  refine Calls.call_function_entry kind_sorted plain_sorted entry_sorted (args_sorted1 _) ?_
  unfold Builtin.«sorted»
  refine wpAny_bind (m := checkCount "sorted" 1 1 _) (wpAny_pure ?_)
  refine wpAny_bind (PySem.W.kdu_collect (A := A.in1) K hh hok hn fun h' tk acc hk hacc => ?_)
  have hl : acc.toList.length = n := by rw [Array.length_toList]; exact hacc.1
  refine wpAny_bind (wpAny_newList ?_ (by rw [hl]; exact hn))
  have hP : ∀ (j : Nat) (v : Value), acc.toList[j]? = some v → P j v := fun j v e => hacc.2 j v (by rw [← Array.getElem?_toList]; exact e)
  have hL : (h'.push (seqObj "list" acc.toList.toArray 0)).get? h'.objs.size = some (seqObj "list" acc.toList.toArray 0) := Heap.get?_push_size _ rfl
  have kp : ∀ b o, s.heap.get? b = some o → (h'.push (seqObj "list" acc.toList.toArray 0)).get? b = some o := fun b o e => Heap.get?_push_of_some _ (hk b o e)
  refine wpAny_bind (wpAny_holding (wpAny_call_entry slot_list_sort ⟨_, hL, rfl⟩ entry_list_sort (SrtO.list_sort_ord (SrtO.swo_lex k) hL (by rw [hl]; exact hn) (fun h2 => ?_) fun out hs hb => ⟨_, rfl, ?_⟩) (args_list_sort _)))
  · refine SrtO.pairs_sortableO (by omega) (fun v hm => ?_) fun o e => ?_
    · obtain ⟨j, hj⟩ := List.getElem?_of_mem hm
      exact (hp j v (hP j v hj)).keeps fun b o e _ => kp b o e
    · have e' : some o = some (seqObj "list" acc.toList.toArray 0) := e.symm.trans hL
      cases e'
      intro c
      exact absurd (Value.type.inj c) (by decide)
  · refine wpAny_pure ⟨_, rfl, h _ _ _ acc.toList out hs hb hl hP (fun b o e => ?_) ?_ ?_⟩
    · have hb1 : b < h'.objs.size := Heap.lt_size (hk b o e)
      rw [sortedHeap_old (Nat.ne_of_lt hb1) (by rw [Heap.size_push]; exact Nat.lt_succ_of_lt hb1)]
      exact kp b o e
    · exact ⟨h', hk, rfl⟩
    · exact sortedHeap_at hL
end
section
variable {X : Cx}
/-- a new object, laid where none stood -/
theorem laid2 {pins : List (Addr × Obj)} {σ : L2.St} {H : Hp} {s : Shared} {h' : Heap} {a : Addr} {o : HO} {t' : Nat} (I : Inv X pins σ H s) (k : ∀ b u, s.heap.get? b = some u → h'.get? b = some u) (hp : s.heap.get? a = none) (hn : H a = none) (new : ObjOk X.prog X.w (upd H a o) h' a o) :
    Inv X pins σ (upd H a o) { s with heap := h', toks := t' } := by
  have up : ∀ b u, H b = some u → upd H a o b = some u := fun b u e => (upd_ne (ne_of_none e hn)).trans e
  refine I.un ⟨fun b u e _ _ _ => k b u e, fun b u e _ _ _ => ⟨_, k b u e⟩, fun b u e n _ => ?_, fun b u e _ => ⟨u, k b u e⟩, fun b _ e => up b _ e, fun b _ _ e => up b _ e, fun b ps e => ⟨#[], by rw [up b _ e]; simp⟩⟩ fun b u e => ?_
  · have hb : b ≠ a := fun z => by rw [z, hp] at e; cases e
    exact (upd_ne hb).trans n
  · by_cases hb : b = a
    · subst hb
      rw [upd_same] at e
      cases e
      exact new
    · rw [upd_ne hb] at e
      exact (I.hok b u e).stay (fun c v _ e2 => k c v e2) (fun c e2 => up c _ e2) fun c _ e2 => up c _ e2
/-- sorted(d) of a dict whose keys are pairs of ints -/
def rSortedDT : List V → Hp → VK → Prop := fun vs H Q => ∃ (d : Addr) (kvs : List (List Key × V)), vs = [V.ref d] ∧ Rd H d (.dT kvs) ∧ (∀ q ∈ kvs, ∃ i j : Int, q.1 = [Sum.inl i, Sum.inl j]) ∧
  ∀ (p : Addr) (bs : List (Addr × (Int × Int))), H p = none → (bs.map fun b => [(Sum.inl b.2.1 : Key), Sum.inl b.2.2]).Perm (kvs.map Prod.fst) → (bs.map Prod.snd).Pairwise (fun a b => SrtO.lexB b a = false) →
    (∀ b ∈ bs, H b.1 = some (.tup [.int b.2.1, .int b.2.2])) → Q (.ref p) (upd H p (.lst (bs.map fun b => V.ref b.1)))
def kpair (H : Hp) (v : Value) : Int × Int :=
  match v with
  | .ref a => match H a with
    | some (.tup [.int i, .int j]) => (i, j)
    | _ => (0, 0)
  | _ => (0, 0)
theorem kpair_is {H : Hp} {a : Addr} {i j : Int} (h : H a = some (.tup [.int i, .int j])) : kpair H (.ref a) = (i, j) := by
  show (match H a with
    | some (.tup [.int i, .int j]) => (i, j)
    | _ => (0, 0)) = (i, j)
  rw [h]
def kad (v : Value) : Addr :=
  match v with
  | .ref a => a
  | _ => 0
theorem perm_map_iff {α β : Type} {f : α → β} {l m : List α} (h : l.Perm m) : (l.map f).Perm (m.map f) := h.map f
theorem cr_sortedDT (hc : X.calm = true) : CallR X (.builtin "sorted") rSortedDT := by
  intro pins s σ H vs us Q I r h
  obtain ⟨d, kvs, rfl, hd, hk, q⟩ := h
  rw [Vals.ref1 r]
  obtain ⟨z, hs, ks, pr, o, es, ep, ho, hx, hdt, he, hn⟩ := (show ObjOk X.prog X.w H s.heap d (.dT kvs) from hd.ok I.hok)
  have l1 : es.size = ks.length := size_of_entries he
  have l2 : kvs.length = ks.length := Paired.length pr
  -- the item at j
  have at_ : ∀ (j : Nat) (v : Value), (∃ en : DictEntry, es[j]? = some en ∧ v = en.key) → ∃ (kv : List Key × V) (b : Addr) (i k : Int), kvs[j]? = some kv ∧ v = .ref b ∧ kv.1 = [Sum.inl i, Sum.inl k] ∧ H b = some (.tup [.int i, .int k]) := by
    intro j v ⟨en, e1, e2⟩
    have qe := entry_at he j
    rw [e1] at qe
    cases hb : ks[j]? with
    | none => rw [hb] at qe; exact nomatch (show some en = none from qe)
    | some b =>
      rw [hb] at qe
      have e3 : en = entryOfKey (tupleKind (mixKind X.prog X.w)) b := Option.some.inj qe
      obtain ⟨kv, f1, f2, f3, _⟩ := DX.pget pr hb
      obtain ⟨i, k, e4⟩ := hk kv (mem_of_get f1)
      refine ⟨kv, b.2.1, i, k, f1, ?_, e4, ?_⟩
      · rw [e2, e3] <;> rfl
      · rw [f3, e4] <;> rfl
  refine sorted_kdl (k := kpair H) (kdl_raw hs hx hdt) (I.ok.hd hc) ho (by omega) (fun j v hj => ?_) fun h' tk D vs out hsrt hstb hlen hat kp hD hL => ?_
  · obtain ⟨kv, b, i, k, _, rfl, _, hb⟩ := at_ j v hj
    rw [kpair_is hb]
    obtain ⟨_, its2, r2, ob, hob, hcl, n, hdd⟩ := I.hok _ _ hb
    obtain ⟨u1, u2, rfl, ri, rj⟩ := vals2 r2
    obtain ⟨t1, rfl⟩ := ri
    obtain ⟨t2, rfl⟩ := rj
    exact ⟨b, ob, t1, t2, n, rfl, hob, hcl, hdd⟩
  · -- the addresses
    have hv : ∀ v ∈ vs, ∃ b i k, v = .ref b ∧ H b = some (.tup [.int i, .int k]) := fun v hv => by
      obtain ⟨j, hj⟩ := List.getElem?_of_mem hv
      obtain ⟨kv, b, i, k, _, e, _, hb⟩ := at_ j v (hat j v hj)
      exact ⟨b, i, k, e, hb⟩
    have hvo : ∀ v ∈ out, ∃ b i k, v = .ref b ∧ H b = some (.tup [.int i, .int k]) := fun v h => hv v (hstb.perm.mem_iff.mp h)
    obtain ⟨h1, kp1, rfl⟩ := hD
    have hDn : H h1.objs.size = none := by
      have I1 : Inv X pins σ H { s with heap := h1 } := I.kept (t' := s.toks) kp1
      exact I1.hok.fresh (Nat.le_refl _)
    have hDs : s.heap.get? h1.objs.size = none := by
      cases e : s.heap.get? h1.objs.size with
      | none => rfl
      | some o => exact absurd (Heap.lt_size (kp1 _ _ e)) (Nat.lt_irrefl _)
    have e1 : (out.map fun v => V.ref (kad v)) = ((out.map fun v => (kad v, kpair H v)).map fun b => V.ref b.1) := by rw [List.map_map]; rfl
    have vals : Vals (out.map fun v => V.ref (kad v)) out := by
      clear e1 hsrt hL
      have hvo2 := hvo
      clear hvo hstb
      induction out with
      | nil => exact .nil
      | cons v l ih =>
        refine .cons ?_ (ih fun x hx => hvo2 x (List.mem_cons_of_mem _ hx))
        obtain ⟨b, i, k, rfl, _⟩ := hvo2 v List.mem_cons_self
        rfl
    have lo : out.length = kvs.length := by rw [hstb.len, hlen]; omega
    obtain ⟨n, hL⟩ := hL
    have I2 : Inv X pins σ (upd H h1.objs.size (.lst (out.map fun v => V.ref (kad v)))) { s with heap := h', toks := tk } := by
      refine laid2 I kp hDs hDn ⟨?_, out, n, vals, hL⟩
      rw [List.length_map, lo]; exact z
    refine ⟨.ref h1.objs.size, _, I2, rfl, ?_⟩
    rw [e1]
    refine q _ _ hDn ?_ ?_ ?_
    · -- the keys
      have p1 : ((out.map fun v => (kad v, kpair H v)).map fun b => [(Sum.inl b.2.1 : Key), Sum.inl b.2.2]) = out.map fun v => [(Sum.inl (kpair H v).1 : Key), Sum.inl (kpair H v).2] := by rw [List.map_map]; rfl
      rw [p1]
      refine (hstb.perm.map _).trans (List.Perm.of_eq ?_)
      apply List.ext_getElem?
      intro j
      rw [List.getElem?_map, List.getElem?_map]
      cases hj : vs[j]? with
      | none =>
        have := List.getElem?_eq_none_iff.mp hj
        rw [List.getElem?_eq_none (by omega : kvs.length ≤ j)]
        rfl
      | some v =>
        obtain ⟨kv, b, i, k, f1, rfl, f2, f3⟩ := at_ j v (hat j v hj)
        rw [f1]
        show some [(Sum.inl (kpair H (.ref b)).1 : Key), Sum.inl (kpair H (.ref b)).2] = some kv.1
        rw [kpair_is f3, f2]
    · rw [List.map_map]
      exact List.pairwise_map.mpr hsrt
    · intro b hb
      obtain ⟨v, hv1, rfl⟩ := List.mem_map.mp hb
      obtain ⟨b, i, k, rfl, h3⟩ := hvo v hv1
      show H b = some (.tup [.int (kpair H (.ref b)).1, .int (kpair H (.ref b)).2])
      rw [kpair_is h3]
      exact h3
end
end K2
/-! K1: dicts by lists, kinds of values, readings. -/
namespace K2
open PySem PySem.Spec PyProof.Rows L2
/-! ### dicts by lists -/
section
variable {α κ : Type} [DecidableEq κ]
theorem val_some {f : α → κ} (inj : ∀ x y, f x = f y → x = y) {g : β → V} : ∀ {fs : List (α × β)}, (fs.map Prod.fst).Nodup → ∀ {x : α} {v : β}, (x, v) ∈ fs → valV (fs.map fun q => (f q.1, g q.2)) (f x) = some (g v)
  | [], _, x, v, h => by simp at h
  | (y, u) :: r, nd, x, v, h => by
    rw [List.map_cons]
    have nd2 := List.nodup_cons.mp (show (y :: r.map Prod.fst).Nodup from nd)
    rcases List.mem_cons.mp h with h | h
    · cases h
      exact valV_pos rfl
    · rw [valV_neg]
      · exact val_some inj nd2.2 h
      · intro e
        have e2 := inj _ _ e
        exact nd2.1 (List.mem_map.mpr ⟨(x, v), h, e2.symm⟩)
theorem val_none {f : α → κ} (inj : ∀ x y, f x = f y → x = y) {g : β → V} : ∀ {fs : List (α × β)} {x : α}, x ∉ fs.map Prod.fst → valV (fs.map fun q => (f q.1, g q.2)) (f x) = none
  | [], x, _ => valV_nil
  | (y, u) :: r, x, h => by
    rw [List.map_cons, valV_neg]
    · exact val_none inj fun z => h (List.mem_cons_of_mem _ z)
    · intro e
      exact h (by rw [← inj _ _ e]; exact List.mem_cons_self)
end
theorem inlN_inj (x y : Nat) (h : (Sum.inl (x : Int) : Key) = Sum.inl (y : Int)) : x = y := by
  have e : (x : Int) = (y : Int) := Sum.inl.inj h
  omega

inductive Kd (H : Hp) : V → String → Prop
  | non : Kd H .non "NoneType"
  | bl (b : Bool) : Kd H (.bl b) "bool"
  | int (i : Int) : Kd H (.int i) "int"
  | str (s : Str) : Kd H (.str s) "str"
  | lst {a : Addr} {xs : List V} (e : H a = some (.lst xs)) : Kd H (.ref a) "list"
  | tup {a : Addr} {xs : List V} (e : H a = some (.tup xs)) : Kd H (.ref a) "tuple"
  | dK {a : Addr} {kvs : List (Key × V)} (e : H a = some (.dK kvs)) : Kd H (.ref a) "dict"
theorem Kd.ty {K : PySem.W.Frag} {H : Hp} {x : V} {n : String} (k : Kd H x n) : TyOf K H x (.type n) := by
  cases k with
  | non => exact .non
  | bl b => exact .bl b
  | int i => exact .int i
  | str s => exact .str s
  | lst e => exact .lst e
  | tup e => exact .tup e
  | dK e => exact .dK e
section
variable {K : PySem.W.Frag} {H : Hp} {Q : VK}
theorem r_isi {x : V} {n m : String} {b : Bool} (k : Kd H x n) (e : PySem.W.kitOne K (.type n) (.type m) = some b) (q : Q (.bl b) H) : rIsi K [x, .ty m] H Q := ⟨x, .ty m, .type n, .type m, b, rfl, .ty m, .base k.ty, e, q⟩
theorem r_isiV {σ : L2.St} {j : Nat} {x : V} {n m : String} {b : Bool} (hx : σ[j]? = some (some x)) (k : Kd H x n) (e : PySem.W.kitOne K (.type n) (.type m) = some b) (q : Q (.bl b) H) : tCB (rIsi K) (tCons (tVar j) (tCons (tC (.ty m)) tNil)) σ H Q := ⟨x, hx, r_isi k e q⟩
end
/-! ### pairs as data -/
abbrev pdP (p : Nat × Nat) : PyData := .tuple [.int p.1, .int p.2]
section
variable {K : PySem.W.Frag} {H : Hp}
theorem dp_pair {v : V} {p : Nat × Nat} (h : IsP H v p) : Dp K H v (pdP p) := by
  obtain ⟨a, rfl, h⟩ := h
  exact .tup (SqT.of h) (.cons (.int _) (.cons (.int _) .nil))
theorem sh_pair (p : Nat × Nat) : SeqAt.shaped (pdP p) = true := rfl
theorem eqv_pair (p q : Nat × Nat) : PyData.eqv (pdP p) (pdP q) = decide (p = q) := by
  obtain ⟨a, b⟩ := p
  obtain ⟨c, d⟩ := q
  have h : PyData.eqv (pdP (a, b)) (pdP (c, d)) = (((a : Int) == (c : Int)) && (((b : Int) == (d : Int)) && true)) := rfl
  rw [h, Bool.and_true]
  by_cases e : a = c ∧ b = d
  · obtain ⟨rfl, rfl⟩ := e
    simp
  · rw [decide_eq_false (fun z => e ⟨congrArg Prod.fst z, congrArg Prod.snd z⟩)]
    rw [Bool.and_eq_false_iff]
    by_cases e1 : a = c
    · exact .inr (beq_eq_false_iff_ne.mpr fun z => e ⟨e1, by omega⟩)
    · exact .inl (beq_eq_false_iff_ne.mpr fun z => e1 (by omega))
theorem dp_tup {a : Addr} {vs : List V} {α : Type} {F : V → α → Prop} {f : α → PyData} {ps : List α} (h : H a = some (.tup vs)) (r : Paired F vs ps) (g : ∀ v p, F v p → Dp K H v (f p)) : Dp K H (.ref a) (.tuple (ps.map f)) := by
  refine .tup (SqT.of h) ?_
  clear h
  induction r with
  | nil => exact .nil
  | cons h t ih => exact .cons (g _ _ h) ih
theorem dp_lst {a : Addr} {vs : List V} {α : Type} {F : V → α → Prop} {f : α → PyData} {ps : List α} (h : H a = some (.lst vs)) (r : Paired F vs ps) (g : ∀ v p, F v p → Dp K H v (f p)) : Dp K H (.ref a) (.list (ps.map f)) := by
  refine .lst (SqL.of h) ?_
  clear h
  induction r with
  | nil => exact .nil
  | cons h t ih => exact .cons (g _ _ h) ih
end
/-! ### tests -/
theorem ifT {c : Bool} {A B : Prop} (h : c = true) (a : A) : if c = true then A else B := by rw [if_pos h]; exact a
theorem ifF {c : Bool} {A B : Prop} (h : c = false) (a : B) : if c = true then A else B := by rw [if_neg (by rw [h]; exact Bool.false_ne_true)]; exact a
theorem ifB {c : Bool} {A B : Prop} (a : c = true → A) (b : c = false → B) : if c = true then A else B := by
  cases c with
  | true => exact ifT rfl (a rfl)
  | false => exact ifF rfl (b rfl)
theorem nEq {a b : Nat} : decide (nI a = nI b) = decide (a = b) := by
  by_cases h : a = b
  · rw [decide_eq_true h, decide_eq_true (congrArg nI h)]
  · rw [decide_eq_false h, decide_eq_false fun z => h (by have := V.int.inj z; omega)]
theorem ne_yes {a b : Nat} (h : a ≠ b) : (!decide (nI a = nI b)) = true := by rw [nEq, decide_eq_false h]; rfl
theorem ne_no {a b : Nat} (h : a = b) : (!decide (nI a = nI b)) = false := by rw [nEq, decide_eq_true h]; rfl
theorem eq_yes {a b : Nat} (h : a = b) : decide (nI a = nI b) = true := by rw [nEq, decide_eq_true h]
theorem eq_no {a b : Nat} (h : a ≠ b) : decide (nI a = nI b) = false := by rw [nEq, decide_eq_false h]
theorem lt_yes {a b : Nat} (h : a < b) : decide ((a : Int) < (b : Int)) = true := decide_eq_true (by omega)
theorem lt_no {a b : Nat} (h : ¬ a < b) : decide ((a : Int) < (b : Int)) = false := decide_eq_false (by omega)
theorem le_yes {a b : Nat} (h : a ≤ b) : decide ((a : Int) ≤ (b : Int)) = true := decide_eq_true (by omega)
theorem le_no {a b : Nat} (h : ¬ a ≤ b) : decide ((a : Int) ≤ (b : Int)) = false := decide_eq_false (by omega)
theorem nI_add (a b : Nat) : V.int ((a : Int) + (b : Int)) = nI (a + b) := by simp [nI]
theorem nI_sub {a b : Nat} (h : b ≤ a) : V.int ((a : Int) - (b : Int)) = nI (a - b) := by rw [nI, Int.ofNat_sub h]
/-! ### ranges; tuples joined; keys that are pairs -/
theorem for_rg {n : Nat} {g : TG} {tb : TS} {D : Ends} {σ : L2.St} {H : Hp} (Pv : Nat → L2.St → Hp → Prop) (h0 : Pv 0 σ H)
    (hs : ∀ i σ H, i < n → Pv i σ H → g (nI i) σ H fun σ2 H2 => tb { D with nx := Pv (i + 1), ct := Pv (i + 1), bk := D.nx } σ2 H2) (hd : ∀ σ H, Pv n σ H → D.nx σ H) :
    ∃ W : Nat → Nat → L2.St → Hp → Prop, (∃ m, W 0 m σ H) ∧ ∀ i m σ H, W i m σ H →
      ((Itr 0 n).stop i H ∧ D.nx σ H) ∨ ((Itr 0 n).go i H ∧ ∃ N : L2.St → Hp → Prop, (∀ σ' H', N σ' H' → ∃ m', m' < m ∧ W (i + 1) m' σ' H') ∧ ∀ x H', (Itr 0 n).yld i H x H' → g x σ H' fun σ2 H2 => tb { D with nx := N, ct := N, bk := D.nx } σ2 H2) :=
  for_range Pv h0 (fun i σ H hi p => by rw [Int.zero_add]; exact hs i σ H hi p) hd
section
variable {K : PySem.W.Frag} {H : Hp} {Q : VK}
theorem r_catA {a b : Addr} {xs ys : List V} (ha : H a = some (.tup xs)) (hb : H b = some (.tup ys)) (hz : xs.length + ys.length ≤ sizeLine) (q : ∀ c H', Sm H H' → Tk H H' → (H' = H ∨ ∃ p o, H p = none ∧ H' = upd H p o) → H' c = some (.tup (xs ++ ys)) → Q (.ref c) H') : rCatA K (.ref a) (.ref b) H Q := by
  refine ⟨a, b, xs, ys, rfl, rfl, SqT.of ha, SqT.of hb, hz, fun e => ?_, fun _ e => ?_, fun _ _ p np => ?_⟩
  · subst e
    exact q b H (Sm.refl H) (Tk.refl H) (.inl rfl) hb
  · subst e
    exact q a H (Sm.refl H) (Tk.refl H) (.inl rfl) (by rw [List.append_nil]; exact ha)
  · exact q p _ (Sm.new np) (Tk.new np) (.inr ⟨p, _, np, rfl⟩) upd_same
end
abbrev kP (p : Nat × Nat) : List Key := [Sum.inl (p.1 : Int), Sum.inl (p.2 : Int)]
theorem kP_inj (x y : Nat × Nat) (h : kP x = kP y) : x = y := by
  obtain ⟨a, b⟩ := x
  obtain ⟨c, d⟩ := y
  injection h with h1 h2
  injection h2 with h2 _
  have e1 := inlN_inj _ _ h1
  have e2 := inlN_inj _ _ h2
  exact Prod.ext e1 e2
def IsR (H : Hp) (v : V) (row : List Nat) : Prop := ∃ a, v = .ref a ∧ H a = some (.tup (row.map nI))
theorem IsR.mono {H H' : Hp} {v : V} {r : List Nat} (e : Tk H H') (h : IsR H v r) : IsR H' v r := by
  obtain ⟨a, rfl, h⟩ := h
  exact ⟨a, rfl, e _ _ h⟩
theorem DGet.p {H : Hp} {a b : Addr} {kvs : List (List Key × V)} {p : Nat × Nat} (h : H a = some (.dT kvs)) (hb : IsP H (.ref b) p) : DGet H a (.ref b) (valV kvs (kP p)) := by
  obtain ⟨c, e, hc⟩ := hb
  cases e
  exact .inr ⟨kvs, kP p, b, .inl h, rfl, hc, rfl⟩
theorem DPut.p {H : Hp} {a b : Addr} {kvs : List (List Key × V)} {p : Nat × Nat} {v : V} (h : H a = some (.dT kvs)) (hb : IsP H (.ref b) p) (hl : kvs.length < sizeLine) : DPut H a (.ref b) v (upd H a (.dT (putK kvs (kP p) v))) := by
  obtain ⟨c, e, hc⟩ := hb
  cases e
  exact DPut.t h hc hl
/-- the steps of a pair, by doors -/
theorem sq_door {W : Web} {p q : Nat × Nat} : Sq W p q ↔ ∃ (d b1 b2 : Nat), door W p.1 d = some (q.1, b1) ∧ door W p.2 d = some (q.2, b2) := Iff.rfl
theorem PSnoc {α β : Type} {F : α → β → Prop} : ∀ {l₁ : List α} {l₂ : List β} {x : α} {y : β}, Paired F l₁ l₂ → F x y → Paired F (l₁ ++ [x]) (l₂ ++ [y])
  | _, _, _, _, .nil, h => .cons h .nil
  | _, _, _, _, .cons g t, h => .cons g (PSnoc t h)
/-! ### data of a shape -/
def Shp (n : Nat) (d : PyData) : Prop := d.canLay0 = true ∧ d.depth ≤ n
theorem shpAll {n : Nat} : ∀ {ds : List PyData}, (∀ d ∈ ds, Shp n d) → PyData.canLayAll0 ds = true ∧ PyData.depthAll ds ≤ n
  | [], _ => ⟨rfl, Nat.zero_le _⟩
  | d :: r, h => by
    obtain ⟨h1, h2⟩ := h d List.mem_cons_self
    obtain ⟨h3, h4⟩ := shpAll fun x hx => h x (List.mem_cons_of_mem _ hx)
    refine ⟨?_, ?_⟩
    · simp only [PyData.canLayAll0, h1, h3, Bool.and_self]
    · simp only [PyData.depthAll]
      omega
theorem shp_tup {n : Nat} {ds : List PyData} (h : ∀ d ∈ ds, Shp n d) : Shp (n + 1) (.tuple ds) := by
  obtain ⟨h1, h2⟩ := shpAll h
  refine ⟨?_, ?_⟩
  · simp only [PyData.canLay0]; exact h1
  · simp only [PyData.depth]; omega
theorem shp_lst {n : Nat} {ds : List PyData} (h : ∀ d ∈ ds, Shp n d) : Shp (n + 1) (.list ds) := by
  obtain ⟨h1, h2⟩ := shpAll h
  refine ⟨?_, ?_⟩
  · simp only [PyData.canLay0]; exact h1
  · simp only [PyData.depth]; omega
theorem shp_int (i : Int) : Shp 0 (.int i) := ⟨by simp only [PyData.canLay0], by simp only [PyData.depth]; omega⟩
theorem Shp.le {n m : Nat} {d : PyData} (h : Shp n d) (l : n ≤ m) : Shp m d := ⟨h.1, Nat.le_trans h.2 l⟩
theorem Shp.ok {n : Nat} {d : PyData} (h : Shp n d) (l : n ≤ 64) : SeqAt.shaped d = true := by
  unfold SeqAt.shaped
  rw [h.1, decide_eq_true (Nat.le_trans h.2 l)]
  rfl
theorem shp_pair (p : Nat × Nat) : Shp 1 (pdP p) := shp_tup fun d hd => by
  rcases List.mem_cons.mp hd with rfl | hd
  · exact shp_int _
  · rw [List.mem_singleton.mp hd]; exact shp_int _
theorem shp_map {α : Type} {n : Nat} {f : α → PyData} {ps : List α} (h : ∀ p, Shp n (f p)) : ∀ d ∈ ps.map f, Shp n d := fun d hd => by
  obtain ⟨p, _, rfl⟩ := List.mem_map.mp hd
  exact h p
/-- f tells things apart -/
def EqD {α : Type} [DecidableEq α] (f : α → PyData) : Prop := ∀ p q, PyData.eqv (f p) (f q) = decide (p = q)
theorem EqD.all {α : Type} [DecidableEq α] {f : α → PyData} (e : EqD f) : ∀ ps qs : List α, PyData.eqvAll (ps.map f) (qs.map f) = decide (ps = qs)
  | [], [] => rfl
  | [], _ :: _ => rfl
  | _ :: _, [] => rfl
  | p :: ps, q :: qs => by
    have ih := e.all ps qs
    show (PyData.eqv (f p) (f q) && PyData.eqvAll (ps.map f) (qs.map f)) = _
    rw [e p q, ih, ← Bool.decide_and]
    congr 1
    exact propext ⟨fun ⟨a, b⟩ => by rw [a, b], fun h => ⟨(List.cons.inj h).1, (List.cons.inj h).2⟩⟩
theorem EqD.list {α : Type} [DecidableEq α] {f : α → PyData} (e : EqD f) : EqD fun ps : List α => PyData.list (ps.map f) := fun ps qs => e.all ps qs
theorem EqD.tuple {α : Type} [DecidableEq α] {f : α → PyData} (e : EqD f) : EqD fun ps : List α => PyData.tuple (ps.map f) := fun ps qs => e.all ps qs
theorem EqD.pair : EqD pdP := eqv_pair
theorem EqD.any {α : Type} [DecidableEq α] {f : α → PyData} (e : EqD f) (ps : List α) (p : α) : ((ps.map f).any fun z => PyData.eqv z (f p)) = decide (p ∈ ps) := by
  rw [List.any_map]
  rw [Bool.eq_iff_iff, List.any_eq_true, decide_eq_true_iff]
  constructor
  · rintro ⟨q, hq, h⟩
    have h2 : PyData.eqv (f q) (f p) = true := h
    rw [e q p, decide_eq_true_iff] at h2
    rw [← h2]; exact hq
  · intro h
    refine ⟨p, h, ?_⟩
    show PyData.eqv (f p) (f p) = true
    rw [e p p, decide_eq_true rfl]
theorem EqD.yes {α : Type} [DecidableEq α] {f : α → PyData} (e : EqD f) {ps : List α} {p : α} (h : p ∈ ps) : ((ps.map f).any fun z => PyData.eqv z (f p)) = true := (e.any ps p).trans (decide_eq_true h)
theorem EqD.no {α : Type} [DecidableEq α] {f : α → PyData} (e : EqD f) {ps : List α} {p : α} (h : p ∉ ps) : ((ps.map f).any fun z => PyData.eqv z (f p)) = false := (e.any ps p).trans (decide_eq_false h)
/-! ### all but tables and the object at a stays -/
structure Sx (a : Addr) (H H' : Hp) : Prop where
  at_ : ∀ b o, b ≠ a → nt o = true → H b = some o → H' b = some o
  tb : ∀ p, GxR.TabG H p → GxR.TabG H' p
  no : ∀ b, H' b = none → H b = none
section
variable {a : Addr} {H H' H1 H2 : Hp}
theorem Sm.sx (a : Addr) (e : Sm H H') : Sx a H H' := ⟨fun b o _ n h => e.at_ b o n h, e.tb, e.no⟩
theorem Sx.refl (a : Addr) (H : Hp) : Sx a H H := (Sm.refl H).sx a
theorem Sx.trans (x : Sx a H H1) (y : Sx a H1 H2) : Sx a H H2 := ⟨fun c o m n h => y.at_ c o m n (x.at_ c o m n h), fun p h => y.tb p (x.tb p h), fun c h => x.no c (y.no c h)⟩
theorem Sx.mut {p : Addr} {o : HO} (e : Sx a H H') (h : H p = none) : Sx a H (upd H' p o) where
  at_ := fun b u m n q => by rw [upd_ne (ne_of_none q h)]; exact e.at_ b u m n q
  tb := fun q t => by
    obtain ⟨qs, e1, r1⟩ := t
    obtain ⟨ps, e2, r2⟩ := e.tb q ⟨qs, e1, r1⟩
    exact ⟨ps, by rw [upd_ne (ne_of_none e1 h)]; exact e2, r2⟩
  no := fun b q => e.no b (upd_no q).1
theorem Sx.add {p : Addr} {o : HO} (e : Sx a H H') (h : H' p = none) : Sx a H (upd H' p o) := e.trans ((Sm.new h).sx a)
theorem Sx.self {o u : HO} (e : Sx a H H') (h : H' a = some u) (n : nt u = true) : Sx a H (upd H' a o) where
  at_ := fun b v m k q => by rw [upd_ne m]; exact e.at_ b v m k q
  tb := fun q t => by
    obtain ⟨ps, e2, r2⟩ := e.tb q t
    have hq : q ≠ a := fun z => by
      rw [z, h] at e2
      have e3 := Option.some.inj e2
      rw [e3] at n
      cases n
    exact ⟨ps, by rw [upd_ne hq]; exact e2, r2⟩
  no := fun b q => e.no b (upd_no q).1
/-- tuples stay, where a is no tuple -/
theorem Sx.tk {u : HO} (e : Sx a H H') (h : H a = some u) (n : ∀ xs, u ≠ .tup xs) : Tk H H' := fun b xs q => e.at_ b _ (fun z => by
  rw [z, h] at q
  exact n xs (Option.some.inj q)) rfl q
/-- a thing that was made after H -/
theorem Sx.sm {H0 : Hp} (e : Sx a H H') (s : Sm H0 H) (h : H0 a = none) : Sm H0 H' := ⟨fun b o n q => e.at_ b o (ne_of_none q h) n (s.at_ b o n q), fun p t => e.tb p (s.tb p t), fun b q => s.no b (e.no b q)⟩
end
/-- a list of pairs on the heap -/
def IsL (H : Hp) (v : V) (ps : List (Nat × Nat)) : Prop := ∃ a vs, v = .ref a ∧ H a = some (.lst vs) ∧ Paired (IsP H) vs ps
theorem dp_isl {K : PySem.W.Frag} {H : Hp} {v : V} {ps : List (Nat × Nat)} (h : IsL H v ps) : Dp K H v (.list (ps.map pdP)) := by
  obtain ⟨a, vs, rfl, h, r⟩ := h
  exact dp_lst h r fun _ _ z => dp_pair z
theorem dp_isps {K : PySem.W.Frag} {H : Hp} {v : V} {ps : List (Nat × Nat)} (h : IsPs H v ps) : Dp K H v (.tuple (ps.map pdP)) := by
  obtain ⟨a, vs, rfl, h, r⟩ := h
  exact dp_tup h r fun _ _ z => dp_pair z
theorem sh_pairsL (ps : List (Nat × Nat)) : SeqAt.shaped (.list (ps.map pdP)) = true := (shp_lst (shp_map shp_pair)).ok (by omega)
theorem sh_pairsT (ps : List (Nat × Nat)) : SeqAt.shaped (.tuple (ps.map pdP)) = true := (shp_tup (shp_map shp_pair)).ok (by omega)
theorem r_un2v {K : PySem.W.Frag} {H : Hp} {a : Addr} {x y : V} {i j : Nat} {σ : L2.St} {R : L2.St → Hp → Prop} (h : H a = some (.tup [x, y])) (q : R ((σ.set i (some x)).set j (some y)) H) : gTup K 2 (gCons (gName i) (gCons (gName j) gNil)) (.ref a) σ H R :=
  ⟨a, _, rfl, SqT.of h, rfl, _, _, rfl, _, _, rfl, rfl, q⟩
/-! ### rules within comprehensions: the written part by its own name -/
section
variable {X : Cx} {K : PySem.W.Frag}
theorem ix_listK (h : X.K = K) : IxR X (rIxL K) := by subst h; exact ix_list
theorem ix_seqK (h : X.K = K) : IxR X (rIx K) := by subst h; exact ix_seq
theorem ix_tupK (h : X.K = K) : IxR X (rIxT K) := by subst h; exact ix_tup
theorem pi_tupK {tg l : Expr} {tl : TE} (h : X.K = K) (hl : PE X l tl) : PI X tg l (iTup K tl) := by subst h; exact pi_tup hl
theorem pi_listK {tg l : Expr} {tl : TE} (h : X.K = K) (hl : PE X l tl) : PI X tg l (iList K tl) := by subst h; exact pi_list hl
theorem pe_tupleOfK {a : Expr} {ta : TE} {p pos : Pos} (h : X.K = K) (hg : Gl X "tuple") (hm : X.mg "tuple" = none) (ha : PE X a ta) (na : starEach [a] X.env = (false, eval a X.env) :: starEach [] X.env := by rfl) :
    PE X (.Call (.Name "tuple" p) [a] [] pos) (tThen ta (kTup K)) := by subst h; exact pe_tupleOf hg hm ha na
theorem pe_indexDK {o e : Expr} {es : List Expr} {to : TE} {t : TA} {apos cpos : Pos} (h : X.K = K) (hu : X.A.units + 65 < cLine) (ho : PE X o to) (ha : PA X (e :: es) t)
    (hbase : attributeBase o "index" X.env (eval o X.env) = eval o X.env := by rfl)
    (hfew : ((backTo cpos (starEach (e :: es) X.env)).all (fun x => !x.1) && (backToKw cpos (keywordEach [] X.env)).all (fun x => x.1.isSome)
      && decide ((e :: es).length + ([] : List Keyword).length + (if ([] : List Keyword).isEmpty then 0 else 1) < 30)) = true := by rfl)
    (hline : (apos.endLine == cpos.line) = true := by rfl) (hs : starEach (e :: es) X.env = (false, eval e X.env) :: starEach es X.env := by rfl) (hplain : (backTo cpos (starEach es X.env)).any (·.1) = false := by rfl) :
    PE X (.Call (.Attribute o "index" apos) (e :: es) [] cpos) (tBM K "list" (rIndexD K) to t) := by
  subst h
  exact pe_bm PySem.F.plainAttrs_list PySem.F.slot_list_index PySem.F.type_list_index (mt_indexD hu) ho ha hbase hfew hline hs hplain
def rLenQ (K : PySem.W.Frag) : List V → Hp → VK → Prop := fun xs H Q => ∃ p ys, xs = [V.ref p] ∧ (SqL K H p ys ∨ SqT K H p ys) ∧ Q (.int (ys.length : Nat)) H
theorem call_len_seqK (h : X.K = K) : CallR X (.builtin "len") (rLenQ K) := by subst h; exact call_len_seq
theorem op_ltTK (h : X.K = K) (hu : X.A.units < cLine) : OpR X (compareOp .Lt) (rLtT K) := by subst h; exact op_ltT hu
theorem op_in_seqK (h : X.K = K) : OpR X (compareOp .In) (rIn K false) := by subst h; exact op_in_seq
end
theorem r_yes {σ : L2.St} {H : Hp} {A B : Hp → Prop} (h : A H) : tYes σ H fun b H3 => if b = true then A H3 else B H3 := iteT (B := B H) h
/-! ### tables of generator expressions -/
def Tbs (Tl : List Addr) (H : Hp) : Prop := ∀ p ∈ Tl, GxR.TabG H p
theorem Sm.tbs {Tl : List Addr} {H H' : Hp} (e : Sm H H') (t : Tbs Tl H) : Tbs Tl H' := fun p hp => e.tb p (t p hp)
theorem Sx.tbs {a : Addr} {Tl : List Addr} {H H' : Hp} (e : Sx a H H') (t : Tbs Tl H) : Tbs Tl H' := fun p hp => e.tb p (t p hp)
theorem sm_tabbed {P : Addr} {H H' : Hp} (h : GxR.TabG H P) (t : GxR.Tabbed P H H') : Sm H H' where
  at_ := fun b o n e => by
    rw [t.2 b fun z => ?_]
    · exact e
    · obtain ⟨ps, e2, _⟩ := h
      rw [z, e2] at e
      rw [← Option.some.inj e] at n
      cases n
  tb := fun p hp => by
    by_cases z : p = P
    · subst z; exact t.1
    · obtain ⟨ps, e, r⟩ := hp
      exact ⟨ps, by rw [t.2 p z]; exact e, r⟩
  no := fun b e => by
    by_cases z : b = P
    · subst z
      obtain ⟨ps, e2, _⟩ := t.1
      rw [e2] at e
      cases e
    · rw [t.2 b z] at e; exact e
/-- the promise of a def that makes generator expressions: its code object is known -/
theorem calG {P : Program} {w : World} {K : PySem.W.Frag} {mg : Str → Option Value} {base : Heap} {x : Str} {st : Stmt} {f c : Addr} {fd : FuncData} {N ps : List Str} {ds : List Value} {dvs : List V} {k : Nat} {sp : Sp} (F : C8.Def K mg x st f fd) (hc : fd.code = .ref c) (b : Binds K fd ps ds) (d : Vals dvs ds) (S : FnScope N ps (C8.fnScope st)) (len : ∀ vs H Q E, sp vs H Q E → vs.length = ps.length)
    (hbody : ∀ (A : Around) (outer : List Env) (s : Shared) (H : Hp) (vs : List V) (Q : VK) (E : XK), Room k (A.deeper (envOfC x (C8.fnScope st) s.heap.objs.size f (.ref c))) → sp vs H Q E →
      ∃ t, PSs (cxOf C8.CX0 P w K mg base N x (C8.fnScope st) f (.ref c) A outer s H E).nox (C8.fnBody st) t ∧ t { nx := fun _ H' => Q .non H', rt := Q } (L2.start N vs) H) : C8.Cal P w K mg base (k + 1) x sp dvs := by
  obtain ⟨oc, od, dV, kV, doc, pm, an, cdv, ct, osl, rfl, lk, hcd⟩ := F.fn.ex
  obtain rfl : cdv = .ref c := hc
  refine ⟨f, _, ps, ds, fn_of lk hcd S len fun A outer s H vs Q E hr hsp => ?_, F.mgf, F.kp, b, d⟩
  obtain ⟨t, h, q⟩ := hbody A outer s H vs Q E hr hsp
  exact ⟨t, h.nox, q⟩
theorem r_tail {K : PySem.W.Frag} {H : Hp} {Q : VK} {a : Addr} {xs : List V} (h : H a = some (.tup xs)) (q : ∀ c H', Sm H H' → H' c = some (.tup xs.tail) → Q (.ref c) H') : rSlA K (.ref a) (some 1) none H Q := by
  have e1 : HT.sIx xs.length 0 (some 1) = min 1 xs.length := HT.sIx_nat xs.length 0 1
  have e2 : HT.sIx xs.length xs.length none = xs.length := HT.sIx_none _ _
  refine ⟨a, xs, rfl, SqT.of h, fun hw => ?_, fun hw p np => ?_⟩
  · rw [e1] at hw
    have h0 : xs.length = 0 := by omega
    obtain rfl := List.eq_nil_of_length_eq_zero h0
    exact q a H (Sm.refl H) h
  · refine q p _ (Sm.new np) ?_
    rw [upd_same]
    unfold cutV
    rw [e1, e2]
    cases xs with
    | nil => simp
    | cons x r => simp
theorem PApp {α β : Type} {F : α → β → Prop} : ∀ {l₁ m₁ : List α} {l₂ m₂ : List β}, Paired F l₁ l₂ → Paired F m₁ m₂ → Paired F (l₁ ++ m₁) (l₂ ++ m₂)
  | _, _, _, _, .nil, h => h
  | _, _, _, _, .cons g t, h => .cons g (PApp t h)
end K2
namespace K2
open PySem PySem.Spec PyProof.Rows L2
abbrev st_law_taken : Stmt := topS 40
theorem sc_law_taken : FnScope ["_law_row", "_law_many", "_law_found", "_law_cell"] ["_law_row", "_law_many"] (C8.fnScope st_law_taken) := C8.fnScope_by (by decide +kernel)
-- slots: _law_row=0 _law_many=1 _law_found=2 _law_cell=3

abbrev st_law_pick : Stmt := topS 44
theorem sc_law_pick : FnScope ["_law_row", "_law_things"] ["_law_row", "_law_things"] (C8.fnScope st_law_pick) := C8.fnScope_by (by decide +kernel)
-- slots: _law_row=0 _law_things=1

/-- the script, where the kernel holds it -/
def KC (K : PySem.W.Frag) (sa : Addr) (xs : List V) : Prop := ∃ (o : Obj) (its : Array Value) (n : Nat), K.lookup sa = some o ∧ o.cls = .type "list" ∧ o.dict = none ∧ o.data = .seq its n ∧ its.size ≤ sizeLine ∧ Vals xs its.toList
/-- the row of the law at a: the script, the place, two states -/
structure Rw (K : PySem.W.Frag) (sa : Addr) (ns : List Int) (a : Addr) (H : Hp) : Prop where
  sc : (sa ≠ a ∧ Rd H sa (.lst (ns.map V.int))) ∨ KC K sa (ns.map V.int)
  row : ∃ (i : Nat) (x y : Int), H a = some (.lst [.ref sa, nI i, .int x, .int y]) ∧ 0 ≤ x ∧ x < 2147483647
section
variable {K : PySem.W.Frag} {sa a : Addr} {ns : List Int} {H H' : Hp}
theorem Rw.sq (h : Rw K sa ns a H) : SqL K H sa (ns.map V.int) := h.sc.elim (fun z => .inl z.2) .inr
theorem rd_sm {xs : List V} (h : Rd H sa (.lst xs)) (e : Sm H H') : Rd H' sa (.lst xs) := h.elim (fun h => .inl (e.at_ _ _ rfl h)) fun ⟨o, h⟩ => .inr ⟨o, e.at_ _ _ rfl h⟩
theorem rd_upd {xs : List V} {p : Addr} {o : HO} (h : Rd H sa (.lst xs)) (n : sa ≠ p) : Rd (upd H p o) sa (.lst xs) := h.elim (fun h => .inl (by rw [upd_ne n]; exact h)) fun ⟨o, h⟩ => .inr ⟨o, by rw [upd_ne n]; exact h⟩
theorem rd_ne {xs : List V} {p : Addr} (h : Rd H sa (.lst xs)) (n : H p = none) : p ≠ sa := fun e => by
  rw [e] at n
  rcases h with h | ⟨o, h⟩
  · rw [h] at n; cases n
  · rw [h] at n; cases n
theorem Rw.sm (h : Rw K sa ns a H) (e : Sm H H') : Rw K sa ns a H' := ⟨h.sc.imp (fun z => ⟨z.1, rd_sm z.2 e⟩) id, let ⟨i, x, y, z, r⟩ := h.row; ⟨i, x, y, e.at_ _ _ rfl z, r⟩⟩
theorem Rw.new {p : Addr} {o : HO} (h : Rw K sa ns a H) (n : H p = none) : Rw K sa ns a (upd H p o) := h.sm (Sm.new n)
theorem Rw.upd {p : Addr} {o : HO} (h : Rw K sa ns a H) (n1 : p ≠ a) (n2 : p ≠ sa ∨ KC K sa (ns.map V.int)) : Rw K sa ns a (upd H p o) := ⟨n2.elim (fun n2 => h.sc.imp (fun z => ⟨z.1, rd_upd z.2 n2.symm⟩) id) .inr, let ⟨i, x, y, z, r⟩ := h.row; ⟨i, x, y, by rw [upd_ne n1.symm]; exact z, r⟩⟩
theorem Rw.nd {p : Addr} (h : Rw K sa ns a H) (n : H p = none) : p ≠ a ∧ (p ≠ sa ∨ KC K sa (ns.map V.int)) := by
  obtain ⟨i, x, y, z, _⟩ := h.row
  exact ⟨fun e => (by rw [e, z] at n; cases n), h.sc.imp (fun q => rd_ne q.2 n) id⟩
theorem Rw.at_ (h : Rw K sa ns a H) : ∃ xs, H a = some (.lst xs) := let ⟨_, _, _, z, _⟩ := h.row; ⟨_, z⟩
theorem Rw.tk {H2 : Hp} (h : Rw K sa ns a H) (e : Sx a H H2) : Tk H H2 := by
  obtain ⟨_, _, _, z, _⟩ := h.row
  exact e.tk z fun _ q => nomatch q
end
/-- H' comes from H by draws and new things -/
structure Dw (K : PySem.W.Frag) (sa : Addr) (ns : List Int) (a : Addr) (H H' : Hp) : Prop where
  sx : Sx a H H'
  rw_ : Rw K sa ns a H'
section
variable {K : PySem.W.Frag} {sa a : Addr} {ns : List Int} {H H' H1 H2 : Hp}
theorem Dw.refl (h : Rw K sa ns a H) : Dw K sa ns a H H := ⟨Sx.refl a H, h⟩
theorem Dw.trans (x : Dw K sa ns a H H1) (y : Dw K sa ns a H1 H2) : Dw K sa ns a H H2 := ⟨x.sx.trans y.sx, y.rw_⟩
theorem Dw.sm (x : Dw K sa ns a H H1) (e : Sm H1 H2) : Dw K sa ns a H H2 := ⟨x.sx.trans (e.sx a), x.rw_.sm e⟩
theorem Dw.add {p : Addr} {o : HO} (x : Dw K sa ns a H H1) (n : H1 p = none) : Dw K sa ns a H (upd H1 p o) := x.sm (Sm.new n)
theorem Dw.mut {p : Addr} {o : HO} (r : Rw K sa ns a H) (x : Dw K sa ns a H H1) (n : H p = none) : Dw K sa ns a H (upd H1 p o) := ⟨x.sx.mut n, x.rw_.upd (r.nd n).1 (r.nd n).2⟩
theorem Dw.tk (r : Rw K sa ns a H) (x : Dw K sa ns a H H1) : Tk H H1 := r.tk x.sx
/-- a list of one's own stays while it is drawn -/
theorem Dw.lst {p : Addr} {o : HO} (x : Dw K sa ns a H H1) (h : H p = some o) (n : p ≠ a) (k : nt o = true) : H1 p = some o := x.sx.at_ p o n k h
end
theorem walk_rg {n : Nat} : Walk (Itr 0 n) n (fun _ => True) (YFn fun i => nI i) := ⟨fun _ _ hi _ => hi, fun _ _ => Nat.le_refl _, fun _ _ _ _ _ _ y => ⟨y.1, by rw [y.2, Int.zero_add]⟩⟩
theorem fmod_nn {i m : Int} (h : 0 < m) : 0 ≤ i.fmod m ∧ i.fmod m < m := ⟨Int.fmod_nonneg_of_pos i h, Int.fmod_lt_of_pos i h⟩
section
variable {P : Program} {w : World} {K : PySem.W.Frag} {mg : Str → Option Value} {base : Heap}
def spTaken (K : PySem.W.Frag) : Sp := fun vs H Q _ => ∃ (a sa : Addr) (ns : List Int) (m : Nat), vs = [.ref a, nI m] ∧ 1 ≤ m ∧ m < 1000 ∧ Rw K sa ns a H ∧ ∀ H' v, Dw K sa ns a H H' → v < m → Q (nI v) H'
theorem cal_law_taken {f : Addr} {fd : FuncData} (F : C8.Def K mg "_law_taken" st_law_taken f fd) (b : Binds K fd ["_law_row", "_law_many"] []) (G : Glob mg) : C8.Cal P w K mg base 1 "_law_taken" (spTaken K) [] := by
  refine C8.cal0 (k := 0) F b .nil sc_law_taken (fun vs H Q E h => ?_) (fun cdv A outer s H vs Q E hr h => ?_)
  · obtain ⟨_, _, _, _, rfl, _⟩ := h
    rfl
  · obtain ⟨a, sa, ns, m, rfl, h1, hm, rw0, q⟩ := h
    refine ⟨_, (pss_cons (ps_if (pt_cmpR op_gt (pe_ix ix_list (pv 0) pe_int (fun _ _ => rfl)) pe_int (nomark _)) 
      (pss_cons (ps_set (i := 2) sc_law_taken.nd rfl (.inl rfl) (pe_op op_modN (pe_callTy (T := "int") call_int1 (by rfl) G.int (by decide +kernel) (pa_cons (pe_ix ix_list (pv 0) pe_int (fun _ _ => rfl)) pa_nil)) (pv 1)))
      (pss_cons (ps_asg (pe_op op_fdivN (pe_ix ix_list (pv 0) pe_int (fun _ _ => rfl)) (pv 1)) (pg_sub (pv 0) pe_int set_list))
      (pss_one (ps_ret (pv 2))))) pss_nil)
    (pss_cons (ps_asg (pe_op op_add (pe_ix ix_list (pv 0) pe_int (fun _ _ => rfl)) pe_int) (pg_sub (pv 0) pe_int set_list))
    (pss_cons (ps_if (pt_cmpR op_gt (pe_ix ix_list (pv 0) pe_int (fun _ _ => rfl)) (pe_callB (id := "len") call_len_seq (by rfl) G.len (by decide +kernel) (pa_cons (pe_ix ix_list (pv 0) pe_int (fun _ _ => rfl)) pa_nil)) (nomark _)) 
      (pss_cons (ps_asg (pe_op op_modN (pe_callTy (T := "int") call_int1 (by rfl) G.int (by decide +kernel) (pa_cons (pe_op op_add (pe_op op_mul (pe_ix ix_list (pv 0) pe_int (fun _ _ => rfl)) pe_int) pe_int) pa_nil)) pe_int) (pg_sub (pv 0) pe_int set_list))
      (pss_one (ps_ret (pe_op op_modN (pe_callTy (T := "int") call_int1 (by rfl) G.int (by decide +kernel) (pa_cons (pe_op op_fdivN (pe_ix ix_list (pv 0) pe_int (fun _ _ => rfl)) pe_int) pa_nil)) (pv 1))))) pss_nil)
    (pss_cons (ps_set (i := 3) sc_law_taken.nd rfl (.inl rfl) (pe_ix ix_list (pe_ix ix_list (pv 0) pe_int (fun _ _ => rfl)) (pe_op op_sub (pe_ix ix_list (pv 0) pe_int (fun _ _ => rfl)) pe_int) (fun _ _ => rfl)))
    (pss_cons (ps_asg (pe_op op_modN (pe_callTy (T := "int") call_int1 (by rfl) G.int (by decide +kernel) (pa_cons (pe_op op_add (pe_op op_add (pe_op op_mul (pe_ix ix_list (pv 0) pe_int (fun _ _ => rfl)) pe_int) (pv 3)) pe_int) pa_nil)) pe_int) (pg_sub (pv 0) pe_int set_list))
    (pss_cons (ps_if (pt_cmpR op_ge (pv 3) (pe_op op_pow pe_int pe_int) (nomark _)) 
      (pss_one (ps_asg (pe_op op_fdivN (pv 3) (pv 1)) (pg_sub (pv 0) pe_int set_list))) pss_nil)
    (pss_one (ps_ret (pe_op op_modN (pe_callTy (T := "int") call_int1 (by rfl) G.int (by decide +kernel) (pa_cons (pv 3) pa_nil)) (pv 1)))))))))), ?_⟩
    obtain ⟨i, x, y, hrow, hx0, hx1⟩ := rw0.row
    have hmz : ((m : Nat) : Int) ≠ 0 := by omega
    have hmn : (((m : Nat) : Int)).natAbs < 1073741824 := by omega
    have fin : ∀ (H' : Hp) (z : Int), Dw K sa ns a H H' → Q (.int (z.fmod (m : Int))) H' := fun H' z dw => by
      obtain ⟨z1, z2⟩ := fmod_nn (i := z) (m := (m : Int)) (by omega)
      have e : z.fmod (m : Int) = (((z.fmod (m : Int)).toNat : Nat) : Int) := by omega
      rw [e]
      exact q H' _ dw (by omega)
    have put : ∀ (H' : Hp) (xs : List V) (i' : Nat) (x' y' : Int), Sx a H H' → (sa ≠ a ∧ Rd H' sa (.lst (ns.map V.int))) ∨ KC K sa (ns.map V.int) → 0 ≤ x' → x' < 2147483647 → H' a = some (.lst xs) → Dw K sa ns a H (upd H' a (.lst [.ref sa, nI i', .int x', .int y'])) := fun H' xs i' x' y' sx hs hx hx2 ha =>
      ⟨sx.self ha rfl, hs.imp (fun z => ⟨z.1, rd_upd z.2 z.1⟩) id, i', x', y', upd_same, hx, hx2⟩
    refine ⟨_, rfl, a, _, 3, _, rfl, rfl, SqL.of hrow, rfl, y, 0, rfl, rfl, _, rfl, ifB (fun _ => ?_) (fun _ => ?_)⟩
    · refine ⟨_, rfl, a, _, 3, _, rfl, rfl, SqL.of hrow, rfl, .inl ⟨y, rfl, _, rfl, y, _, rfl, rfl, hmz, ?_⟩⟩
      refine ⟨_, rfl, a, _, 3, _, rfl, rfl, SqL.of hrow, rfl, _, rfl, y, _, rfl, rfl, ⟨hmz, hmn⟩, ?_⟩
      refine ⟨_, rfl, a, _, 3, 3, rfl, rfl, hrow, rfl, ?_⟩
      exact ⟨_, rfl, fin _ _ (put H _ i x (y.fdiv m) (Sx.refl a H) rw0.sc hx0 hx1 hrow)⟩
    · refine ⟨_, rfl, a, _, 1, _, rfl, rfl, SqL.of hrow, rfl, _, _, rfl, rfl, ?_⟩
      refine ⟨_, rfl, a, _, 1, 1, rfl, rfl, hrow, rfl, ?_⟩
      have dw1 := put H _ (i + 1) x y (Sx.refl a H) rw0.sc hx0 hx1 hrow
      have r1 : upd H a (.lst (([.ref sa, nI i, .int x, .int y] : List V).set 1 (.int ((i : Int) + 1)))) a = some (.lst [.ref sa, nI (i + 1), .int x, .int y]) := upd_same
      have s1 := dw1.rw_.sc
      have dw1' : Dw K sa ns a H (upd H a (.lst (([.ref sa, nI i, .int x, .int y] : List V).set 1 (.int ((i : Int) + 1))))) := dw1
      have s1' := dw1'.rw_.sc
      clear dw1 s1
      generalize upd H a (.lst (([.ref sa, nI i, .int x, .int y] : List V).set 1 (.int ((i : Int) + 1)))) = H1 at r1 dw1' s1' ⊢
      refine ⟨_, rfl, a, _, 1, _, rfl, rfl, SqL.of r1, rfl, _, rfl, a, _, 0, _, rfl, rfl, SqL.of r1, rfl, sa, _, rfl, .inl dw1'.rw_.sq, _, _, rfl, rfl, _, rfl, ifB (fun hgt => ?_) (fun hle => ?_)⟩
      · obtain ⟨m1, m2⟩ := fmod_nn (i := x * 48271 + 11) (m := 2147483647) (by omega)
        refine ⟨_, rfl, a, _, 2, _, rfl, rfl, SqL.of r1, rfl, x, 48271, rfl, rfl, .inl ⟨by omega, by omega⟩, _, 11, rfl, rfl, .inl ⟨_, rfl, _, 2147483647, rfl, rfl, (by show (2147483647 : Int) ≠ 0; decide), _, rfl, a, _, 2, 2, rfl, rfl, r1, rfl, ?_⟩⟩
        have dw2 : Dw K sa ns a H (upd H1 a (.lst (([.ref sa, nI (i + 1), .int x, .int y] : List V).set 2 (.int ((x * 48271 + 11).fmod 2147483647))))) := put H1 _ (i + 1) _ y dw1'.sx s1' m1 m2 r1
        have r2 : upd H1 a (.lst (([.ref sa, nI (i + 1), .int x, .int y] : List V).set 2 (.int ((x * 48271 + 11).fmod 2147483647)))) a = some (.lst [.ref sa, nI (i + 1), .int ((x * 48271 + 11).fmod 2147483647), .int y]) := upd_same
        generalize upd H1 a (.lst (([.ref sa, nI (i + 1), .int x, .int y] : List V).set 2 (.int ((x * 48271 + 11).fmod 2147483647)))) = H2 at dw2 r2 ⊢
        exact ⟨_, rfl, a, _, 2, _, rfl, rfl, SqL.of r2, rfl, _, 7, rfl, rfl, ⟨by decide, by decide⟩, .inl ⟨_, rfl, _, rfl, _, _, rfl, rfl, hmz, fin _ _ dw2⟩⟩
      · have hlt : i < (ns.map V.int).length := by
          have z := of_decide_eq_false hle
          omega
        rw [List.length_map] at hlt
        obtain ⟨c, hc⟩ := get_of_lt hlt
        have e : ((i + 1 : Nat) : Int) - 1 = (i : Int) := by omega
        refine ⟨_, rfl, a, _, 0, _, rfl, rfl, SqL.of r1, rfl, _, rfl, a, _, 1, _, rfl, rfl, SqL.of r1, rfl, _, 1, rfl, rfl, sa, _, ((i + 1 : Nat) : Int) - 1, .int c, rfl, rfl, dw1'.rw_.sq, by rw [e]; exact atI_nat (by rw [List.getElem?_map, hc]; rfl), ?_⟩
        obtain ⟨m1, m2⟩ := fmod_nn (i := x * 48271 + c + 11) (m := 2147483647) (by omega)
        refine ⟨_, rfl, a, _, 2, _, rfl, rfl, SqL.of r1, rfl, x, 48271, rfl, rfl, .inl ⟨by omega, by omega⟩, _, rfl, _, c, rfl, rfl, _, 11, rfl, rfl, .inl ⟨_, rfl, _, 2147483647, rfl, rfl, (by show (2147483647 : Int) ≠ 0; decide), _, rfl, a, _, 2, 2, rfl, rfl, r1, rfl, ?_⟩⟩
        have dw2 : Dw K sa ns a H (upd H1 a (.lst (([.ref sa, nI (i + 1), .int x, .int y] : List V).set 2 (.int ((x * 48271 + c + 11).fmod 2147483647))))) := put H1 _ (i + 1) _ y dw1'.sx s1' m1 m2 r1
        have r2 : upd H1 a (.lst (([.ref sa, nI (i + 1), .int x, .int y] : List V).set 2 (.int ((x * 48271 + c + 11).fmod 2147483647)))) a = some (.lst [.ref sa, nI (i + 1), .int ((x * 48271 + c + 11).fmod 2147483647), .int y]) := upd_same
        have s2 := dw2.rw_.sc
        generalize upd H1 a (.lst (([.ref sa, nI (i + 1), .int x, .int y] : List V).set 2 (.int ((x * 48271 + c + 11).fmod 2147483647)))) = H2 at dw2 r2 s2 ⊢
        refine ⟨_, rfl, 10, 18, rfl, rfl, ⟨by decide, by decide, by decide⟩, c, _, rfl, rfl, _, rfl, ifB (fun _ => ?_) (fun _ => ?_)⟩
        · refine ⟨_, rfl, _, rfl, c, _, rfl, rfl, ⟨hmz, hmn⟩, _, rfl, a, _, 3, 3, rfl, rfl, r2, rfl, ?_⟩
          exact ⟨_, rfl, .inl ⟨c, rfl, _, rfl, _, _, rfl, rfl, hmz, fin _ _ (put H2 _ (i + 1) _ _ dw2.sx s2 m1 m2 r2)⟩⟩
        · exact ⟨_, rfl, .inl ⟨c, rfl, _, rfl, _, _, rfl, rfl, hmz, fin _ _ dw2⟩⟩
def spPick (K : PySem.W.Frag) : Sp := fun vs H Q _ => ∃ (a sa l : Addr) (ns : List Int) (xs : List V), vs = [.ref a, .ref l] ∧ Rw K sa ns a H ∧ l ≠ a ∧ H l = some (.lst xs) ∧ 1 ≤ xs.length ∧ xs.length < 1000 ∧ ∀ H' (j : Nat) v, Dw K sa ns a H H' → xs[j]? = some v → Q v H'
theorem cal_law_pick {f : Addr} {fd : FuncData} (F : C8.Def K mg "_law_pick" st_law_pick f fd) (b : Binds K fd ["_law_row", "_law_things"] []) (G : Glob mg) (c_law_taken : C8.Cal P w K mg base 1 "_law_taken" (spTaken K) []) : C8.Cal P w K mg base 2 "_law_pick" (spPick K) [] := by
  refine C8.cal0 (k := 1) F b .nil sc_law_pick (fun vs H Q E h => ?_) (fun cdv A outer s H vs Q E hr h => ?_)
  · obtain ⟨_, _, _, _, _, rfl, _⟩ := h
    rfl
  · obtain ⟨a, sa, l, ns, xs, rfl, rw0, hla, hl, h1, h2, q⟩ := h
    refine ⟨_, (pss_one (ps_ret (pe_ix ix_list (pv 1) (C8.pe_c c_law_taken hr (by decide) (by rfl) (pa_cons (pv 0) (pa_cons (pe_callB (id := "len") call_len_seq (by rfl) G.len (by decide +kernel) (pa_cons (pv 1) pa_nil)) pa_nil))) (fun _ _ => rfl)))), ?_⟩
    refine ⟨_, rfl, _, rfl, _, rfl, l, xs, rfl, .inl (SqL.of hl), a, sa, ns, xs.length, rfl, h1, h2, rw0, fun H' v dw hv => ?_⟩
    obtain ⟨z, hz⟩ := get_of_lt hv
    exact r_ixL (dw.lst hl hla rfl) hz (q H' v z dw hz)
end
end K2
namespace K2
open PySem PySem.Spec PyProof.Rows L2
abbrev st_law_mixed : Stmt := topS 46
theorem sc_law_mixed : FnScope ["_law_row", "_law_many", "_law_left", "_law_found"] ["_law_row", "_law_many"] (C8.fnScope st_law_mixed) := C8.fnScope_by (by decide +kernel)
-- slots: _law_row=0 _law_many=1 _law_left=2 _law_found=3

/-! ### while xs != []: ys.append(xs.pop(_law_taken(row, len(xs)))) -/
theorem shuffle {K : PySem.W.Frag} {i j : Nat} {σ : L2.St} {H0 H : Hp} {p q a sa : Addr} {ns : List Int} {xs : List V} {D : Ends} (h0 : σ[0]? = some (some (.ref a))) (hi : σ[i]? = some (some (.ref p))) (hj : σ[j]? = some (some (.ref q)))
    (rw0 : Rw K sa ns a H0) (dw : Dw K sa ns a H0 H) (hp : H p = some (.lst xs)) (hq : H q = some (.lst [])) (np : H0 p = none) (nq : H0 q = none) (hpq : p ≠ q) (hl : xs.length < 1000) (hD : ∀ H', Tk H H' → ∀ v ∈ xs, ∃ d, Dp K H' v d ∧ Shp 1 d)
    (fin : ∀ H1 ys, Dw K sa ns a H0 H1 → Tk H H1 → H1 q = some (.lst ys) → ys.Perm xs → D.nx σ H1) :
    tWhile (tTest (tOp (rNeD K) (tVar i) (tLst tNil))) (tDrop (tBM K "list" rAppend (tVar j) (tCons (tBM K "list" rPopAt (tVar i) (tCons (tCall (spTaken K) [] C8.E0 (tCons (tVar 0) (tCons (tCB (rLenQ K) (tCons (tVar i) tNil)) tNil))) tNil)) tNil))) D σ H := by
  have npa := (rw0.nd np).1
  have nqa := (rw0.nd nq).1
  refine ⟨fun m σ' H1 => σ' = σ ∧ ∃ xs1 ys, H1 p = some (.lst xs1) ∧ H1 q = some (.lst ys) ∧ (ys ++ xs1).Perm xs ∧ Dw K sa ns a H0 H1 ∧ Tk H H1 ∧ m = xs1.length, ⟨_, rfl, xs, [], hp, hq, by simp, dw, Tk.refl H, rfl⟩, ?_⟩
  rintro m σ' H1 ⟨rfl, xs1, ys, h1, h2, pm, dw1, tk1, rfl⟩
  have hlen := pm.length_eq
  rw [List.length_append] at hlen
  refine ⟨_, hi, Nat.zero_le _, fun le nle => ?_⟩
  have sle : Sm H1 (upd H1 le (.lst [])) := Sm.new nle
  have h1e := sle.at_ p _ rfl h1
  have h2e := sle.at_ q _ rfl h2
  have dwe := dw1.sm sle
  have tke := tk1.trans sle.tk
  have hee : upd H1 le (.lst []) le = some (.lst []) := upd_same
  generalize upd H1 le (.lst []) = He at h1e h2e dwe tke hee ⊢
  have hex : ∃ ds, DpAll K He xs1 ds ∧ (∀ d ∈ ds, Shp 1 d) ∧ (ds = [] ↔ xs1 = []) := by
    have sub : ∀ v ∈ xs1, ∃ d, Dp K He v d ∧ Shp 1 d := fun v hv => hD He tke v (pm.mem_iff.mp (List.mem_append_right _ hv))
    clear pm h1 h1e hlen
    induction xs1 with
    | nil => exact ⟨[], .nil, fun d h => (by cases h), by simp⟩
    | cons v r ih =>
      obtain ⟨d, d1, d2⟩ := sub v List.mem_cons_self
      obtain ⟨ds, e1, e2, _⟩ := ih fun x hx => sub x (List.mem_cons_of_mem _ hx)
      refine ⟨d :: ds, .cons d1 e1, fun x hx => ?_, by simp⟩
      rcases List.mem_cons.mp hx with rfl | hx
      · exact d2
      · exact e2 x hx
  obtain ⟨ds, da, dsh, dnil⟩ := hex
  refine ⟨_, _, .lst (SqL.of h1e) da, .lst (SqL.of hee) .nil, (shp_lst dsh).ok (by omega), rfl, ?_⟩
  by_cases hx : xs1 = []
  · have hd0 := dnil.mpr hx
    subst hx hd0
    refine ⟨_, rfl, iteF (fin He ys dwe tke h2e ?_)⟩
    rw [List.append_nil] at pm
    exact pm
  · have e0 : PyData.eqv (.list ds) (.list []) = false := by
      cases ds with
      | nil => exact absurd (dnil.mp rfl) hx
      | cons _ _ => rfl
    rw [e0]
    have hpos := List.length_pos_iff.mpr hx
    refine ⟨_, rfl, iteT ⟨fun σ2 H2 => ∃ m' : Nat, m' < xs1.length ∧ σ2 = σ' ∧ ∃ xs1 ys, H2 p = some (.lst xs1) ∧ H2 q = some (.lst ys) ∧ (ys ++ xs1).Perm xs ∧ Dw K sa ns a H0 H2 ∧ Tk H H2 ∧ m' = xs1.length, fun σ2 H2 h => h, ?_⟩⟩
    refine ⟨_, hj, .inl ⟨rfl, _, SqL.of h2e⟩, _, hi, .inl ⟨rfl, _, SqL.of h1e⟩, _, h0, _, hi, p, xs1, rfl, .inl (SqL.of h1e), a, sa, ns, xs1.length, rfl, hpos, by omega, dwe.rw_, fun H2 v dw2 hv => ?_⟩
    have h12 := dw2.lst h1e npa rfl
    have h22 := dw2.lst h2e nqa rfl
    have tk2 := dw2.tk dwe.rw_
    obtain ⟨y, hy⟩ := get_of_lt hv
    refine ⟨p, xs1, (v : Int), v, y, rfl, rfl, h12, by omega, by omega, ?_, hy, ?_⟩
    · have z := seqIndex_of (k := (v : Int)) (n := xs1.length) (by omega) (by omega)
      exact z
    have dw3 : Dw K sa ns a H0 (upd H2 p (.lst (xs1.eraseIdx v))) := (dwe.trans dw2).mut rw0 np
    have h23 : upd H2 p (.lst (xs1.eraseIdx v)) q = some (.lst ys) := by rw [upd_ne hpq.symm]; exact h22
    have tk3 : Tk H (upd H2 p (.lst (xs1.eraseIdx v))) := (tke.trans tk2).trans (Tk.lst h12)
    have h13 : upd H2 p (.lst (xs1.eraseIdx v)) p = some (.lst (xs1.eraseIdx v)) := upd_same
    generalize upd H2 p (.lst (xs1.eraseIdx v)) = H3 at dw3 h23 tk3 h13 ⊢
    refine ⟨q, ys, y, rfl, rfl, h23, small1000 (by omega), _, ?_, rfl, xs1.eraseIdx v, ys ++ [y], by rw [upd_ne hpq]; exact h13, upd_same, ?_, dw3.mut rw0 nq, tk3.trans (Tk.lst h23), rfl⟩
    · rw [List.length_eraseIdx, if_pos hv]; omega
    · refine List.Perm.trans ?_ pm
      rw [List.append_assoc]
      refine List.Perm.append_left ys ?_
      have e1 : xs1 = xs1.take v ++ y :: xs1.drop (v + 1) := by
        obtain ⟨h3, h4⟩ := List.getElem?_eq_some_iff.mp hy
        rw [← h4, List.getElem_cons_drop, List.take_append_drop]
      have e2 : xs1.eraseIdx v = xs1.take v ++ xs1.drop (v + 1) := List.eraseIdx_eq_take_drop_succ _ _
      rw [e2]
      conv => rhs; rw [e1]
      show List.Perm (y :: (xs1.take v ++ xs1.drop (v + 1))) _
      exact List.perm_middle.symm
theorem nI_inj (x y : Nat) (h : nI x = nI y) : x = y := by
  have := V.int.inj h
  omega
def unI : V → Nat
  | .int i => i.toNat
  | _ => 0
theorem perm_nI {ys : List V} {l : List Nat} (h : ys.Perm (l.map nI)) : ∃ m : List Nat, ys = m.map nI := by
  refine ⟨ys.map unI, ?_⟩
  rw [List.map_map]
  have e : ys.map id = ys.map (nI ∘ unI) := List.map_congr_left fun v hv => by
    obtain ⟨x, _, rfl⟩ := List.mem_map.mp (h.mem_iff.mp hv)
    rfl
  rwa [List.map_id] at e
theorem perm_nI2 {m l : List Nat} (h : (m.map nI).Perm (l.map nI)) : m.Perm l := by
  have z := h.map unI
  rw [List.map_map, List.map_map] at z
  have e : (unI ∘ nI) = id := funext fun x => by show ((x : Int)).toNat = x; omega
  rw [e, List.map_id, List.map_id] at z
  exact z
section
variable {P : Program} {w : World} {K : PySem.W.Frag} {mg : Str → Option Value} {base : Heap}
def spMixed (K : PySem.W.Frag) : Sp := fun vs H Q _ => ∃ (a sa : Addr) (ns : List Int) (m : Nat), vs = [.ref a, nI m] ∧ m ≤ 100 ∧ Rw K sa ns a H ∧ ∀ (H' : Hp) (p : Addr) (l : List Nat), Dw K sa ns a H H' → H p = none → H' p = some (.lst (l.map nI)) → l.Perm (List.range m) → Q (.ref p) H'
theorem cal_law_mixed {f : Addr} {fd : FuncData} (F : C8.Def K mg "_law_mixed" st_law_mixed f fd) (b : Binds K fd ["_law_row", "_law_many"] []) (G : Glob mg) (c_law_taken : C8.Cal P w K mg base 1 "_law_taken" (spTaken K) []) : C8.Cal P w K mg base 2 "_law_mixed" (spMixed K) [] := by
  refine C8.cal0 (k := 1) F b .nil sc_law_mixed (fun vs H Q E h => ?_) (fun cdv A outer s H vs Q E hr h => ?_)
  · obtain ⟨_, _, _, _, rfl, _⟩ := h
    rfl
  · obtain ⟨a, sa, ns, m, rfl, hm, rw0, q⟩ := h
    refine ⟨_, (pss_cons (ps_par (i := 2) (j := 3) (by rfl) sc_law_mixed.nd rfl rfl (by decide) rfl rfl (pa_cons (pe_listRg rfl (by rfl) G.list (prg_1 (by rfl) G.range (pv 1))) (pa_cons (pe_lst pa_nil) pa_nil)) (by rfl))
    (pss_cons (ps_while PassesOwn.never (pt_cmpR (op_neD hr.units) (pv 2) (pe_lst pa_nil) (nomark _)) 
      (pss_one (ps_expr (pe_bm PySem.F.plainAttrs_list PySem.F.slot_list_append PySem.F.type_list_append mt_append (pv 3) (pa_cons (pe_bm PySem.F.plainAttrs_list PySem.F.slot_list_pop PySem.F.type_list_pop mt_popAt (pv 2) (pa_cons (C8.pe_c c_law_taken hr (by decide) (by rfl) (pa_cons (pv 0) (pa_cons (pe_callB (id := "len") call_len_seq (by rfl) G.len (by decide +kernel) (pa_cons (pv 2) pa_nil)) pa_nil))) pa_nil)) pa_nil)))))
    (pss_one (ps_ret (pv 3))))), ?_⟩
    refine ⟨_, rfl, m, rfl, ⟨by omega, by omega⟩, fun l1 nl1 => ?_⟩
    obtain ⟨n1a, n1s⟩ := rw0.nd nl1
    have e0 : rgV 0 (m : Int) = (List.range m).map nI := by
      unfold rgV
      have e : ((m : Int) - 0).toNat = m := by omega
      rw [e]
      exact List.map_congr_left fun i _ => by rw [Int.zero_add]
    have dw1 : Dw K sa ns a H (upd H l1 (.lst (rgV 0 (m : Int)))) := (Dw.refl rw0).add nl1
    have hl1 : upd H l1 (.lst (rgV 0 (m : Int))) l1 = some (.lst ((List.range m).map nI)) := by rw [upd_same, e0]
    generalize upd H l1 (.lst (rgV 0 (m : Int))) = H1 at dw1 hl1 ⊢
    refine ⟨Nat.zero_le _, fun l2 nl2 => ⟨_, _, rfl, ?_⟩⟩
    have n12 : l1 ≠ l2 := fun e => by rw [← e, hl1] at nl2; cases nl2
    have nH2 : H l2 = none := dw1.sx.no l2 nl2
    refine shuffle (i := 2) (j := 3) rfl rfl rfl rw0 (dw1.add nl2) ((Sm.new nl2).at_ l1 _ rfl hl1) upd_same nl1 nH2 n12 (by rw [List.length_map, List.length_range]; omega) (fun H' _ v hv => ?_) fun H3 ys dw3 _ h3 pm => ?_
    · obtain ⟨i, _, rfl⟩ := List.mem_map.mp hv
      exact ⟨_, .int _, (shp_int _).le (by omega)⟩
    · obtain ⟨l, rfl⟩ : ∃ l : List Nat, ys = l.map nI := perm_nI pm
      refine ⟨_, rfl, q H3 l2 l dw3 nH2 h3 ?_⟩
      exact perm_nI2 pm
end
end K2
namespace K2
open PySem PySem.Spec PyProof.Rows L2
abbrev st_law_linked : Stmt := topS 42
theorem sc_law_linked : FnScope ["_law_pairs_here", "_law_many", "_law_doors", "_law_one", "_law_other", "_law_room", "_law_line"] ["_law_pairs_here", "_law_many"] (C8.fnScope st_law_linked) := C8.fnScope_by (by decide +kernel)
-- slots: _law_pairs_here=0 _law_many=1 _law_doors=2 _law_one=3 _law_other=4 _law_room=5 _law_line=6

/-- lists of pairs, one for each room, made after H0 -/
structure LD (H0 H : Hp) (cs : List Addr) (D : Web) : Prop where
  len : cs.length = D.length
  nd : cs.Nodup
  fr : ∀ c ∈ cs, H0 c = none
  at_ : ∀ (i : Nat) c, cs[i]? = some c → ∃ vs, H c = some (.lst vs) ∧ Paired (IsP H) vs (D.getD i [])
theorem LD.sm {H0 H H' : Hp} {cs : List Addr} {D : Web} (h : LD H0 H cs D) (e : Sm H H') : LD H0 H' cs D := ⟨h.len, h.nd, h.fr, fun i c ec => by
  obtain ⟨vs, h1, h2⟩ := h.at_ i c ec
  exact ⟨vs, e.at_ _ _ rfl h1, L2.Paired.mapP h2 fun _ _ z => z.mono e.tk⟩⟩
theorem LD.get {H0 H : Hp} {cs : List Addr} {D : Web} (h : LD H0 H cs D) {i : Nat} (hi : i < D.length) : ∃ c vs, cs[i]? = some c ∧ H c = some (.lst vs) ∧ Paired (IsP H) vs (D.getD i []) ∧ H0 c = none := by
  obtain ⟨c, ec⟩ := get_of_lt (l := cs) (i := i) (by rw [h.len]; exact hi)
  obtain ⟨vs, h1, h2⟩ := h.at_ i c ec
  exact ⟨c, vs, ec, h1, h2, h.fr c (mem_of_get ec)⟩
theorem nd_get {cs : List Addr} (nd : cs.Nodup) {i j : Nat} {c : Addr} (h1 : cs[i]? = some c) (h2 : cs[j]? = some c) : i = j := by
  obtain ⟨a, ea⟩ := List.getElem?_eq_some_iff.mp h1
  obtain ⟨b, eb⟩ := List.getElem?_eq_some_iff.mp h2
  rcases Nat.lt_trichotomy i j with h | h | h
  · exact absurd (ea.trans eb.symm) (List.pairwise_iff_getElem.mp nd i j a b h)
  · exact h
  · exact absurd (eb.trans ea.symm) (List.pairwise_iff_getElem.mp nd j i b a h)
theorem LD.push {H0 H : Hp} {cs : List Addr} {D : Web} (h : LD H0 H cs D) {i : Nat} {c : Addr} {vs : List V} {v : V} {p : Nat × Nat} (ec : cs[i]? = some c) (hc : H c = some (.lst vs)) (hv : IsP H v p) : LD H0 (upd H c (.lst (vs ++ [v]))) cs (D.set i (D.getD i [] ++ [p])) := by
  have hi : i < D.length := by rw [← h.len]; exact lt_of_get ec
  have tk : Tk H (upd H c (.lst (vs ++ [v]))) := Tk.lst hc
  refine ⟨by rw [List.length_set]; exact h.len, h.nd, h.fr, fun j c' ec' => ?_⟩
  rw [getD_set hi]
  obtain ⟨vs', h1, h2⟩ := h.at_ j c' ec'
  by_cases e : j = i
  · subst e
    rw [ec] at ec'
    cases ec'
    rw [hc] at h1
    cases h1
    rw [if_pos rfl]
    exact ⟨_, upd_same, PSnoc (L2.Paired.mapP h2 fun _ _ z => z.mono tk) (hv.mono tk)⟩
  · have hne : c' ≠ c := fun z => e (nd_get h.nd (by rw [z] at ec'; exact ec') ec)
    rw [if_neg e]
    exact ⟨vs', by rw [upd_ne hne]; exact h1, L2.Paired.mapP h2 fun _ _ z => z.mono tk⟩
theorem cnt_le (r : Nat) (ps : List (Nat × Nat)) : K2.cnt r ps ≤ 2 * ps.length := by
  unfold K2.cnt
  have h1 := List.countP_le_length (p := fun p : Nat × Nat => decide (p.1 = r)) (l := ps)
  have h2 := List.countP_le_length (p := fun p : Nat × Nat => decide (p.2 = r)) (l := ps)
  omega
theorem linkW_succ {ps : List (Nat × Nat)} {n i : Nat} {x y : Nat} (h : ps[i]? = some (x, y)) : linkW (ps.take (i + 1)) n = addL (linkW (ps.take i) n) x y := by
  unfold linkW
  rw [List.take_add_one, h, List.foldl_append]
  rfl
section
variable {P : Program} {w : World} {K : PySem.W.Frag} {mg : Str → Option Value} {base : Heap}
/-- a web was drawn -/
def spGen (K : PySem.W.Frag) : Sp := fun vs H Q _ => ∃ (a sa : Addr) (ns : List Int), vs = [.ref a] ∧ Rw K sa ns a H ∧ ∀ H' p W, Dw K sa ns a H H' → IsW H' (.ref p) W → Ok W → Q (.ref p) H'
def spLinked : Sp := fun vs H Q _ => ∃ (l : Addr) (pvs : List V) (ps : List (Nat × Nat)) (n : Nat), vs = [.ref l, nI n] ∧ H l = some (.lst pvs) ∧ Paired (IsP H) pvs ps ∧ n ≤ 20 ∧ ps.length ≤ 50 ∧ (∀ p ∈ ps, p.1 < n ∧ p.2 < n ∧ p.1 ≠ p.2) ∧ ∀ H' p, Sm H H' → IsW H' (.ref p) (linkW ps n) → Q (.ref p) H'
theorem cal_law_linked {f : Addr} {fd : FuncData} (F : C8.Def K mg "_law_linked" st_law_linked f fd) (b : Binds K fd ["_law_pairs_here", "_law_many"] []) (G : Glob mg) : C8.Cal P w K mg base 1 "_law_linked" spLinked [] := by
  refine C8.cal0 (k := 0) F b .nil sc_law_linked (fun vs H Q E h => ?_) (fun cdv A outer s H vs Q E hr h => ?_)
  · obtain ⟨_, _, _, _, rfl, _⟩ := h
    rfl
  · obtain ⟨l, pvs, ps, n, rfl, hl, pr, hn, hps, hp, q⟩ := h
    refine ⟨_, (pss_cons (ps_setLc (i := 2) (own := [("_law_room", 5)]) (g := gName 5) (tt := tYes) rfl sc_law_linked.nd rfl rfl (sw_true rfl rfl rfl (by decide +kernel)) (pi_range1 (by rfl) G.range (pa_cons (pv 1) pa_nil)) (blkOk_by (own := [("_law_room", 5)]) (N := ["_law_pairs_here", "_law_many", "_law_doors", "_law_one", "_law_other", "_law_room", "_law_line"]) (sc := C8.fnScope st_law_linked) (by decide +kernel)) (fun _ _ _ _ _ => (pg_name (i := 5) sc_law_linked.nd rfl (.inl rfl))) (fun _ _ _ _ _ => pts_nil) (fun _ _ _ _ _ => (pe_lst pa_nil)))
    (pss_cons (ps_for PassesOwn.never rfl (pi_list (pv 0)) (pg_tup rfl (pgs_cons (pg_name (i := 3) sc_law_linked.nd rfl (.inl rfl)) (pgs_cons (pg_name (i := 4) sc_law_linked.nd rfl (.inl rfl)) pgs_nil))) 
      (pss_cons (ps_expr (pe_bm PySem.F.plainAttrs_list PySem.F.slot_list_append PySem.F.type_list_append mt_append (pe_ix ix_list (pv 2) (pv 3) (fun _ _ => rfl)) (pa_cons (pe_tup (pa_cons (pv 4) (pa_cons (pe_callB (id := "len") call_len_seq (by rfl) G.len (by decide +kernel) (pa_cons (pe_ix ix_list (pv 2) (pv 4) (fun _ _ => rfl)) pa_nil)) pa_nil))) pa_nil)))
      (pss_one (ps_expr (pe_bm PySem.F.plainAttrs_list PySem.F.slot_list_append PySem.F.type_list_append mt_append (pe_ix ix_list (pv 2) (pv 4) (fun _ _ => rfl)) (pa_cons (pe_tup (pa_cons (pv 3) (pa_cons (pe_op op_sub (pe_callB (id := "len") call_len_seq (by rfl) G.len (by decide +kernel) (pa_cons (pe_ix ix_list (pv 2) (pv 3) (fun _ _ => rfl)) pa_nil)) pe_int) pa_nil))) pa_nil))))))
    (pss_one (ps_ret (pe_tupleOf (by rfl) G.tuple (pe_lc (own := [("_law_line", 6)]) (g := gName 6) (tt := tYes) rfl sc_law_linked.nd (pi_list (pv 2)) (blkOk_by (own := [("_law_line", 6)]) (N := ["_law_pairs_here", "_law_many", "_law_doors", "_law_one", "_law_other", "_law_room", "_law_line"]) (sc := C8.fnScope st_law_linked) (by decide +kernel)) (fun _ _ _ _ _ => (pg_name (i := 6) sc_law_linked.nd rfl (.inl rfl))) (fun _ _ _ _ _ => pts_nil) (fun _ _ _ _ _ => (pe_tupleOfK (K := K) (by rfl) (by rfl) G.tuple (pv 6))))))))), ?_⟩
    have hpl := pr.length
    refine ⟨_, rfl, _, rfl, by omega, by omega, fun D nD => lc_it (walk_range (lo := 0) (n := n)) (fun i Hc => ∃ cs : List Addr, Hc D = some (.lst (cs.map V.ref)) ∧ cs.length = i ∧ cs.Nodup ∧ (∀ c ∈ cs, Hc c = some (.lst []) ∧ H c = none ∧ c ≠ D) ∧ Sm H Hc) ⟨[], upd_same, rfl, List.nodup_nil, fun c h => (by cases h), Sm.new nD⟩ (fun _ _ _ _ => trivial) (fun i x Hc H' hi h hY => ?_) (fun Hc h => ?_)⟩
    · obtain ⟨cs, hD, hcl, cnd, hcs, sc⟩ := h
      obtain ⟨rfl, rfl⟩ := hY
      refine ⟨rfl, r_yes ⟨Nat.zero_le _, fun c nc => ?_⟩⟩
      have hne : c ≠ D := fun z => by rw [z, hD] at nc; cases nc
      refine ⟨cs.map V.ref, (Sm.new nc).at_ D _ rfl hD, by rw [List.length_map]; exact small1000 (by omega), cs ++ [c], by rw [upd_same, List.map_append]; rfl, by rw [List.length_append, hcl]; rfl, ?_, fun c' hc' => ?_, (sc.add nc).mut nD⟩
      · rw [List.nodup_append]
        refine ⟨cnd, by simp, fun a ha b hb => ?_⟩
        rw [List.mem_singleton.mp hb]
        exact fun z => by rw [z] at ha; rw [(hcs c ha).1] at nc; cases nc
      · rcases List.mem_append.mp hc' with h | h
        · obtain ⟨h1, h2, h3⟩ := hcs c' h
          exact ⟨by rw [upd_ne h3]; exact (Sm.new nc).at_ c' _ rfl h1, h2, h3⟩
        · rw [List.mem_singleton.mp h]
          exact ⟨by rw [upd_ne hne]; exact upd_same, sc.no c nc, hne⟩
    obtain ⟨cs, hD, hcl, cnd, hcs, sc⟩ := h
    have ld0 : LD H Hc cs (linkW (ps.take 0) n) := by
      refine ⟨by show cs.length = (List.replicate n []).length; rw [List.length_replicate]; exact hcl, cnd, fun c hc => (hcs c hc).2.1, fun i c ec => ⟨[], (hcs c (mem_of_get ec)).1, ?_⟩⟩
      have e : (linkW (ps.take 0) n).getD i [] = [] := by
        show (List.replicate n ([] : List (Nat × Nat))).getD i [] = []
        rw [List.getD_eq_getElem?_getD, List.getElem?_replicate]
        split <;> rfl
      rw [e]
      exact .nil
    have hDc : D ∉ cs := fun z => (hcs D z).2.2 rfl
    -- for one, other in pairs
    refine ⟨_, rfl, l, rfl, ⟨_, SqL.of (sc.at_ l _ rfl hl)⟩, for_list (xs := pvs) (fun i σ1 H1 => ∃ (x3 x4 x5 x6 : Option V), σ1 = [some (.ref l), some (nI n), some (.ref D), x3, x4, x5, x6] ∧ H1 D = some (.lst (cs.map V.ref)) ∧ LD H H1 cs (linkW (ps.take i) n) ∧ Sm H H1)
      ⟨_, _, _, _, rfl, hD, ld0, sc⟩ (fun i σ1 H1 _ h => by obtain ⟨_, _, _, _, _, _, _, h⟩ := h; exact SqL.of (h.at_ l _ rfl hl)) (fun i x σ1 H1 hx h => ?_) (fun σ1 H1 h => ?_)⟩
    · obtain ⟨x3, x4, x5, x6, rfl, hD1, ld, s1⟩ := h
      obtain ⟨⟨x, y⟩, ep, hxy⟩ := pget1 pr hx
      obtain ⟨hx1, hy1, hne⟩ := hp _ (mem_of_get ep)
      have lk : Lk n (ps.take i) (linkW (ps.take i) n) := lk_link fun p hp' => hp p (List.mem_of_mem_take hp')
      have dlen := lk.len
      have dsm : ∀ r, ((linkW (ps.take i) n).getD r []).length ≤ 100 := fun r => by
        rcases Nat.lt_or_ge r n with z | z
        · have e := lk.cnt r z
          have c2 := cnt_le r (ps.take i)
          have t : (ps.take i).length ≤ ps.length := by rw [List.length_take]; omega
          have e2 : deg (linkW (ps.take i) n) r = ((linkW (ps.take i) n).getD r []).length := rfl
          omega
        · rw [List.getD_eq_getElem?_getD, List.getElem?_eq_none (by omega)]
          exact Nat.zero_le _
      rw [linkW_succ ep]
      have e0 : addL (linkW (ps.take i) n) x y = ((linkW (ps.take i) n).set x ((linkW (ps.take i) n).getD x [] ++ [(y, ((linkW (ps.take i) n).getD y []).length)])).set y (((linkW (ps.take i) n).set x ((linkW (ps.take i) n).getD x [] ++ [(y, ((linkW (ps.take i) n).getD y []).length)])).getD y [] ++ [(x, (((linkW (ps.take i) n).set x ((linkW (ps.take i) n).getD x [] ++ [(y, ((linkW (ps.take i) n).getD y []).length)])).getD x []).length - 1)]) := rfl
      rw [e0]
      generalize linkW (ps.take i) n = D0 at ld dlen dsm ⊢
      refine r_un2 (hxy.mono s1.tk) ?_
      obtain ⟨c1, vs1, ec1, hc1, pc1, nc1⟩ := ld.get (i := x) (by omega)
      obtain ⟨c2, vs2, ec2, hc2, pc2, nc2⟩ := ld.get (i := y) (by omega)
      have hl1 := pc1.length
      have hl2 := pc2.length
      have hs1 := dsm x
      have hs2 := dsm y
      have hDc1 : D ≠ c1 := fun z => hDc (by rw [z]; exact mem_of_get ec1)
      have hDc2 : D ≠ c2 := fun z => hDc (by rw [z]; exact mem_of_get ec2)
      have gx : (cs.map V.ref)[x]? = some (.ref c1) := by rw [List.getElem?_map, ec1]; rfl
      have gy : (cs.map V.ref)[y]? = some (.ref c2) := by rw [List.getElem?_map, ec2]; rfl
      refine ⟨_, rfl, _, rfl, r_ixL hD1 gx ⟨.inl ⟨rfl, _, SqL.of hc1⟩, _, rfl, _, rfl, _, rfl, r_ixL hD1 gy ⟨c2, vs2, rfl, .inl (SqL.of hc2), by show 2 ≤ sizeLine; decide, fun t nt => ?_⟩⟩⟩
      have st : Sm H1 (upd H1 t (.tup [nI y, .int (vs2.length : Nat)])) := Sm.new nt
      have hpt : IsP (upd H1 t (.tup [nI y, .int (vs2.length : Nat)])) (.ref t) (y, (D0.getD y []).length) := ⟨t, rfl, by rw [upd_same, hl2]⟩
      have ld2 := ld.sm st
      have hc1' := st.at_ c1 _ rfl hc1
      have hD2 := st.at_ D _ rfl hD1
      have s2 := s1.trans st
      generalize upd H1 t (.tup [nI y, .int (vs2.length : Nat)]) = H2 at hpt ld2 hc1' hD2 s2 ⊢
      refine ⟨c1, vs1, _, rfl, rfl, hc1', small1000 (by omega), ?_⟩
      have ld3 := ld2.push ec1 hc1' hpt
      have s3 : Sm H (upd H2 c1 (.lst (vs1 ++ [.ref t]))) := s2.mut nc1
      have hD3 : upd H2 c1 (.lst (vs1 ++ [.ref t])) D = some (.lst (cs.map V.ref)) := by rw [upd_ne hDc1]; exact hD2
      generalize upd H2 c1 (.lst (vs1 ++ [.ref t])) = H3 at ld3 s3 hD3 ⊢
      obtain ⟨c1b, vs1b, ec1b, hc1b, pc1b, _⟩ := ld3.get (i := x) (by rw [List.length_set]; omega)
      obtain ⟨c2b, vs2b, ec2b, hc2b, pc2b, nc2b⟩ := ld3.get (i := y) (by rw [List.length_set]; omega)
      rw [ec1] at ec1b
      cases ec1b
      rw [ec2] at ec2b
      cases ec2b
      have hl1b := pc1b.length
      have hl2b := pc2b.length
      have z1 : ((D0.set x (D0.getD x [] ++ [(y, (D0.getD y []).length)])).getD x []).length = (D0.getD x []).length + 1 := by
        rw [getD_set (by omega), if_pos rfl, List.length_append]; rfl
      have z2 : ((D0.set x (D0.getD x [] ++ [(y, (D0.getD y []).length)])).getD y []).length = (D0.getD y []).length := by
        rw [getD_set (by omega), if_neg hne.symm]
      refine ⟨_, rfl, _, rfl, r_ixL hD3 gy ⟨.inl ⟨rfl, _, SqL.of hc2b⟩, _, rfl, _, rfl, _, rfl, r_ixL hD3 gx ⟨c1, vs1b, rfl, .inl (SqL.of hc1b), _, 1, rfl, rfl, by show 2 ≤ sizeLine; decide, fun t2 nt2 => ?_⟩⟩⟩
      have st2 : Sm H3 (upd H3 t2 (.tup [nI x, .int ((vs1b.length : Nat) - 1)])) := Sm.new nt2
      have hpt2 : IsP (upd H3 t2 (.tup [nI x, .int ((vs1b.length : Nat) - 1)])) (.ref t2) (x, ((D0.set x (D0.getD x [] ++ [(y, (D0.getD y []).length)])).getD x []).length - 1) := by
        refine ⟨t2, rfl, ?_⟩
        rw [upd_same]
        have e : ((vs1b.length : Nat) : Int) - 1 = ((((D0.set x (D0.getD x [] ++ [(y, (D0.getD y []).length)])).getD x []).length - 1 : Nat) : Int) := by omega
        rw [e]
      have ld4 := ld3.sm st2
      have hc4 := st2.at_ c2 _ rfl hc2b
      have hD4 := st2.at_ D _ rfl hD3
      have s4 := s3.trans st2
      generalize upd H3 t2 (.tup [nI x, .int ((vs1b.length : Nat) - 1)]) = H4 at hpt2 ld4 hc4 hD4 s4 ⊢
      refine ⟨c2, vs2b, _, rfl, rfl, hc4, small1000 (by omega), ?_⟩
      exact ⟨_, _, _, _, rfl, by rw [upd_ne hDc2]; exact hD4, ld4.push ec2 hc4 hpt2, s4.mut nc2⟩
    · obtain ⟨x3, x4, x5, x6, rfl, hD1, ld, s1⟩ := h
      rw [hpl, List.take_length] at ld
      have lk : Lk n ps (linkW ps n) := lk_link hp
      have dlen := lk.len
      have hcl2 := ld.len
      -- tuple([tuple(line) for line in doors])
      refine ⟨_, rfl, D, rfl, ⟨_, SqL.of hD1⟩, fun D2 nD2 => lc_list (xs := cs.map V.ref) (fun i Hi => ∃ tv, Hi D2 = some (.lst tv) ∧ Paired (IsPs Hi) tv ((linkW ps n).take i) ∧ Sm H1 Hi) ⟨[], upd_same, by rw [List.take_zero]; exact .nil, Sm.new nD2⟩ (fun i Hi _ h => by obtain ⟨_, _, _, h⟩ := h; exact SqL.of (h.at_ D _ rfl hD1)) (fun i x Hi hx h => ?_) (fun Hi h => ?_)⟩
      · obtain ⟨tv, hD2, pt, si⟩ := h
        rw [List.getElem?_map] at hx
        obtain ⟨c, ec, rfl⟩ : ∃ c, cs[i]? = some c ∧ x = .ref c := by
          cases e : cs[i]? with
          | none => rw [e] at hx; cases hx
          | some c => rw [e] at hx; exact ⟨c, rfl, (Option.some.inj hx).symm⟩
        obtain ⟨vs, hc, pc⟩ := ld.at_ i c ec
        have hi := lt_of_get ec
        have hwi : (linkW ps n)[i]? = some ((linkW ps n).getD i []) := by
          have z : i < (linkW ps n).length := by omega
          rw [List.getD_eq_getElem?_getD, List.getElem?_eq_getElem z]; rfl
        refine ⟨rfl, r_yes ⟨_, rfl, .inl ⟨c, vs, rfl, SqL.of (si.at_ c _ rfl hc), fun tq ntq => ?_⟩⟩⟩
        have hptl := pt.length
        rw [List.length_take] at hptl
        have sq : Sm Hi (upd Hi tq (.tup vs)) := Sm.new ntq
        have hD3 := sq.at_ D2 _ rfl hD2
        have t6 : Tk Hi (upd (upd Hi tq (.tup vs)) D2 (.lst (tv ++ [.ref tq]))) := sq.tk.trans (Tk.lst hD3)
        refine ⟨tv, hD3, small1000 (by omega), tv ++ [.ref tq], upd_same, ?_, (si.trans sq).mut nD2⟩
        rw [List.take_add_one, hwi]
        exact PSnoc (L2.Paired.mapP pt fun _ _ z => z.mono t6) ⟨tq, vs, rfl, Tk.lst hD3 _ _ upd_same, L2.Paired.mapP pc fun _ _ z => z.mono (si.tk.trans t6)⟩
      · obtain ⟨tv, hD2, pt, si⟩ := h
        rw [List.length_map, hcl2, List.take_length] at pt
        refine .inl ⟨D2, tv, rfl, SqL.of hD2, fun tq ntq => ?_⟩
        exact q _ tq (s1.trans (si.add ntq)) ⟨tq, tv, rfl, upd_same, L2.Paired.mapP pt fun _ _ z => z.mono (Tk.new ntq)⟩
end
end K2
namespace K2
open PySem PySem.Spec PyProof.Rows L2
abbrev st_law_doubled : Stmt := topS 43
theorem sc_law_doubled : FnScope ["_law_row", "_law_many", "_law_pairs_here", "_law_at", "_law_place", "_law_links", "_law_one", "_law_other", "_law_room"] ["_law_row"] (C8.fnScope st_law_doubled) := C8.fnScope_by (by decide +kernel)
-- slots: _law_row=0 _law_many=1 _law_pairs_here=2 _law_at=3 _law_place=4 _law_links=5 _law_one=6 _law_other=7 _law_room=8

theorem cut_lo {xs : List V} {k : Nat} (h : k ≤ xs.length) : cutV xs none (some (k : Int)) = xs.take k := by
  unfold cutV
  rw [HT.sIx_none, HT.sIx_nat, Nat.min_eq_left h, List.drop_zero, Nat.sub_zero]
theorem cut_hi {xs : List V} {k : Nat} (h : k ≤ xs.length) : cutV xs (some (k : Int)) none = xs.drop k := by
  unfold cutV
  rw [HT.sIx_none, HT.sIx_nat, Nat.min_eq_left h]
  exact List.take_of_length_le (by rw [List.length_drop]; exact Nat.le_refl _)
theorem PTake {α β : Type} {F : α → β → Prop} : ∀ {l₁ : List α} {l₂ : List β} (k : Nat), Paired F l₁ l₂ → Paired F (l₁.take k) (l₂.take k)
  | _, _, 0, _ => by rw [List.take_zero, List.take_zero]; exact .nil
  | _, _, k + 1, .nil => .nil
  | _, _, k + 1, .cons h t => .cons h (PTake k t)
theorem PDrop {α β : Type} {F : α → β → Prop} : ∀ {l₁ : List α} {l₂ : List β} (k : Nat), Paired F l₁ l₂ → Paired F (l₁.drop k) (l₂.drop k)
  | _, _, 0, h => h
  | _, _, k + 1, .nil => .nil
  | _, _, k + 1, .cons _ t => PDrop k t
theorem dlinks_len (m : Nat) : ∀ ps : List (Nat × Nat), (dlinks m ps).length = 2 * ps.length
  | [] => rfl
  | p :: r => by
    have ih := dlinks_len m r
    show ((p.1, p.2) :: (p.1 + m, p.2 + m) :: dlinks m r).length = 2 * (r.length + 1)
    rw [List.length_cons, List.length_cons, ih]
    omega
section
variable {P : Program} {w : World} {K : PySem.W.Frag} {mg : Str → Option Value} {base : Heap}
theorem cal_law_doubled {f : Addr} {fd : FuncData} (F : C8.Def K mg "_law_doubled" st_law_doubled f fd) (b : Binds K fd ["_law_row"] []) (G : Glob mg) (c_law_taken : C8.Cal P w K mg base 1 "_law_taken" (spTaken K) []) (c_law_linked : C8.Cal P w K mg base 1 "_law_linked" spLinked []) : C8.Cal P w K mg base 3 "_law_doubled" (spGen K) [] := by
  refine C8.cal0 (k := 2) F b .nil sc_law_doubled (fun vs H Q E h => ?_) (fun cdv A outer s H vs Q E hr h => ?_)
  · obtain ⟨_, _, _, rfl, _⟩ := h
    rfl
  · obtain ⟨a, sa, ns, rfl, rw0, q⟩ := h
    refine ⟨_, (pss_cons (ps_set (i := 1) sc_law_doubled.nd rfl (.inl rfl) (pe_op op_add pe_int (C8.pe_c c_law_taken hr (by decide) (by rfl) (pa_cons (pv 0) (pa_cons pe_int pa_nil)))))
    (pss_cons (ps_setLc (i := 2) (own := [("_law_room", 8)]) (g := gName 8) (tt := tYes) rfl sc_law_doubled.nd rfl rfl (sw_true rfl rfl rfl (by decide +kernel)) (pi_range2 (by rfl) G.range (pa_cons pe_int (pa_cons (pv 1) pa_nil))) (blkOk_by (own := [("_law_room", 8)]) (N := ["_law_row", "_law_many", "_law_pairs_here", "_law_at", "_law_place", "_law_links", "_law_one", "_law_other", "_law_room"]) (sc := C8.fnScope st_law_doubled) (by decide +kernel)) (fun _ _ _ _ _ => (pg_name (i := 8) sc_law_doubled.nd rfl (.inl rfl))) (fun _ _ _ _ _ => pts_nil) (fun _ _ _ _ _ => (pe_tup (pa_cons (C8.pe_c c_law_taken hr (by decide) (by rfl) (pa_cons (pv 0) (pa_cons (pv 8) pa_nil))) (pa_cons (pv 8) pa_nil)))))
    (pss_cons (ps_par (i := 3) (j := 4) (by rfl) sc_law_doubled.nd rfl rfl (by decide) rfl rfl (pa_cons (C8.pe_c c_law_taken hr (by decide) (by rfl) (pa_cons (pv 0) (pa_cons (pv 1) pa_nil))) (pa_cons (C8.pe_c c_law_taken hr (by decide) (by rfl) (pa_cons (pv 0) (pa_cons (pe_op op_add (pv 1) pe_int) pa_nil))) pa_nil)) (by rfl))
    (pss_cons (ps_set (i := 5) sc_law_doubled.nd rfl (.inl rfl) (pe_lst pa_nil))
    (pss_cons (ps_for PassesOwn.never rfl (pi_list (pv 2)) (pg_tup rfl (pgs_cons (pg_name (i := 6) sc_law_doubled.nd rfl (.inl rfl)) (pgs_cons (pg_name (i := 7) sc_law_doubled.nd rfl (.inl rfl)) pgs_nil))) 
      (pss_one (ps_set (i := 5) sc_law_doubled.nd rfl (.inl rfl) (pe_op op_cat (pv 5) (pe_lst (pa_cons (pe_tup (pa_cons (pv 6) (pa_cons (pv 7) pa_nil))) (pa_cons (pe_tup (pa_cons (pe_op op_add (pv 6) (pv 1)) (pa_cons (pe_op op_add (pv 7) (pv 1)) pa_nil))) pa_nil)))))))
    (pss_cons (ps_set (i := 5) sc_law_doubled.nd rfl (.inl rfl) (pe_op op_cat (pe_op op_cat (pe_slice sl_list (pv 5) po_none (po_some (pe_op op_mul pe_int (pe_callB (id := "min") (call_min2 rfl) (by rfl) G.min (by decide +kernel) (pa_cons (pv 4) (pa_cons (pe_callB (id := "len") call_len_seq (by rfl) G.len (by decide +kernel) (pa_cons (pv 2) pa_nil)) pa_nil)))))) (pe_lst (pa_cons (pe_tup (pa_cons (pv 3) (pa_cons (pe_op op_add (pv 3) (pv 1)) pa_nil))) pa_nil))) (pe_slice sl_list (pv 5) (po_some (pe_op op_mul pe_int (pe_callB (id := "min") (call_min2 rfl) (by rfl) G.min (by decide +kernel) (pa_cons (pv 4) (pa_cons (pe_callB (id := "len") call_len_seq (by rfl) G.len (by decide +kernel) (pa_cons (pv 2) pa_nil)) pa_nil))))) po_none)))
    (pss_one (ps_ret (C8.pe_c c_law_linked hr (by decide) (by rfl) (pa_cons (pv 5) (pa_cons (pe_op op_mul pe_int (pv 1)) pa_nil))))))))))), ?_⟩
    refine ⟨_, rfl, a, sa, ns, 3, rfl, by omega, by omega, rw0, fun H1 v dw1 hv => ⟨1, _, rfl, rfl, ?_⟩⟩
    -- many = m
    obtain ⟨m, hm⟩ : ∃ m, m = 1 + v := ⟨_, rfl⟩
    have em : V.int ((1 : Int) + (v : Int)) = nI m := by rw [hm]; exact nI_add 1 v
    show tSeq _ _ _ (List.set _ 1 (some (V.int ((1 : Int) + (v : Int))))) H1
    rw [em]
    have m1 : 1 ≤ m := by omega
    have m3 : m ≤ 3 := by omega
    clear em
    refine ⟨_, rfl, 1, (m : Int), rfl, ⟨by omega, by omega, by omega, by omega⟩, fun D nD => ?_⟩
    have emn : ((m : Int) - 1).toNat = m - 1 := by omega
    rw [emn]
    have nHD : H D = none := dw1.sx.no D nD
    refine lc_it (walk_range (lo := 1) (n := m - 1)) (fun i Hc => ∃ (pvs : List V) (ps : List (Nat × Nat)), Hc D = some (.lst pvs) ∧ Paired (IsP Hc) pvs ps ∧ ps.length = i ∧ (∀ (k : Nat) p, ps[k]? = some p → p.2 = k + 1 ∧ p.1 < k + 1) ∧ Dw K sa ns a H Hc) ⟨[], [], upd_same, .nil, rfl, fun k p h => by simp at h, dw1.mut rw0 nHD⟩ (fun _ _ _ _ => trivial) (fun i x Hc H' hi h hY => ?_) (fun Hc h => ?_)
    · obtain ⟨pvs, ps, hD, pp, hpl, hps, dwc⟩ := h
      obtain ⟨rfl, rfl⟩ := hY
      have hpvl := pp.length
      have ei : V.int ((1 : Int) + (i : Int)) = nI (1 + i) := nI_add 1 i
      show gName 8 (V.int ((1 : Int) + (i : Int))) _ _ _
      rw [ei]
      refine ⟨rfl, r_yes ⟨_, rfl, _, rfl, a, sa, ns, 1 + i, rfl, by omega, by omega, dwc.rw_, fun H2 u dw2 hu => ⟨_, rfl, by show 2 ≤ sizeLine; decide, fun p np => ?_⟩⟩⟩
      have dwx := dwc.trans dw2
      have hDa : D ≠ a := (rw0.nd nHD).1
      have hD2 := (Sm.new (o := .tup [nI u, nI (1 + i)]) np).at_ D _ rfl (dw2.lst hD hDa rfl)
      have t2 := dw2.tk dwc.rw_
      have t6 : Tk H' (upd (upd H2 p (.tup [nI u, nI (1 + i)])) D (.lst (pvs ++ [.ref p]))) := (t2.trans (Tk.new np)).trans (Tk.lst hD2)
      refine ⟨pvs, hD2, small1000 (by omega), pvs ++ [.ref p], ps ++ [(u, 1 + i)], upd_same, PSnoc (L2.Paired.mapP pp fun _ _ z => z.mono t6) ⟨p, rfl, Tk.lst hD2 _ _ upd_same⟩, by rw [List.length_append, hpl]; rfl, fun k p' hk => ?_, (dwx.add np).mut rw0 nHD⟩
      rcases get_app hk with h | ⟨h1, h2⟩
      · exact hps k p' h
      · have e0 : k - ps.length = 0 := by
          have := lt_of_get h2
          simp at this
          exact this
        rw [e0] at h2
        have e3 : (u, 1 + i) = p' := Option.some.inj h2
        rw [← e3]
        have hki : k = i := by omega
        exact ⟨by show 1 + i = k + 1; omega, by show u < k + 1; omega⟩
    obtain ⟨pvs, ps, hD, pp, hpl, hps, dwc⟩ := h
    have hpvl := pp.length
    have hDa : D ≠ a := (rw0.nd nHD).1
    -- at, place
    refine ⟨_, rfl, _, rfl, a, sa, ns, m, rfl, m1, by omega, dwc.rw_, fun H2 at_ dw2 hat => ⟨_, rfl, _, rfl, _, 1, rfl, rfl, a, sa, ns, m + 1, rfl, by omega, by omega, dw2.rw_, fun H3 pc dw3 hpc => ⟨_, _, rfl, ?_⟩⟩⟩
    have dw13 := (dwc.trans dw2).trans dw3
    have hD3 := (dw2.trans dw3).lst hD hDa rfl
    have tk3 := (dw2.trans dw3).tk dwc.rw_
    have pp3 : Paired (IsP H3) pvs ps := L2.Paired.mapP pp fun _ _ z => z.mono tk3
    refine ⟨Nat.zero_le _, fun l0 nl0 => ?_⟩
    have s4 : Sm H3 (upd H3 l0 (.lst [])) := Sm.new nl0
    have hl0 : upd H3 l0 (.lst []) l0 = some (.lst []) := upd_same
    generalize upd H3 l0 (.lst []) = H4 at s4 hl0 ⊢
    refine ⟨_, rfl, D, rfl, ⟨_, SqL.of (s4.at_ D _ rfl hD3)⟩, for_list (xs := pvs) (fun i σ5 H5 => ∃ (ll : Addr) (lvs : List V) (x6 x7 x8 : Option V), σ5 = [some (.ref a), some (nI m), some (.ref D), some (nI at_), some (nI pc), some (.ref ll), x6, x7, x8] ∧ H5 ll = some (.lst lvs) ∧ Paired (IsP H5) lvs (dlinks m (ps.take i)) ∧ Sm H3 H5)
      ⟨l0, [], _, _, _, rfl, hl0, .nil, s4⟩ (fun i σ5 H5 _ h => by obtain ⟨_, _, _, _, _, _, _, _, h⟩ := h; exact SqL.of (h.at_ D _ rfl hD3)) (fun i x σ5 H5 hx h => ?_) (fun σ5 H5 h => ?_)⟩
    · obtain ⟨ll, lvs, x6, x7, x8, rfl, hll, plv, s5⟩ := h
      obtain ⟨⟨x, y⟩, ep, hxy⟩ := pget1 pp3 hx
      have hi := lt_of_get ep
      have hlvl := plv.length
      rw [dlinks_len, List.length_take] at hlvl
      refine r_un2 (hxy.mono s5.tk) ?_
      refine ⟨_, rfl, _, rfl, _, rfl, by show 2 ≤ sizeLine; decide, fun p np => ?_⟩
      have s6 : Sm H5 (upd H5 p (.tup [nI x, nI y])) := Sm.new np
      have hp6 : IsP (upd H5 p (.tup [nI x, nI y])) (.ref p) (x, y) := ⟨p, rfl, upd_same⟩
      generalize upd H5 p (.tup [nI x, nI y]) = H6 at s6 hp6 ⊢
      refine ⟨_, rfl, _, rfl, _, _, rfl, rfl, _, rfl, _, rfl, _, _, rfl, rfl, by show 2 ≤ sizeLine; decide, fun p2 np2 => ⟨by show 2 ≤ sizeLine; decide, fun l2 nl2 => ?_⟩⟩
      have s7 : Sm H6 (upd H6 p2 (.tup [.int ((x : Int) + (m : Int)), .int ((y : Int) + (m : Int))])) := Sm.new np2
      have hp7 : IsP (upd H6 p2 (.tup [.int ((x : Int) + (m : Int)), .int ((y : Int) + (m : Int))])) (.ref p2) (x + m, y + m) := ⟨p2, rfl, by rw [upd_same]; rfl⟩
      have nl2' : (upd H6 p2 (.tup [.int ((x : Int) + (m : Int)), .int ((y : Int) + (m : Int))])) l2 = none := nl2
      show rCat _ _ _ _
      have s8 : Sm H5 (upd (upd H6 p2 (.tup [.int ((x : Int) + (m : Int)), .int ((y : Int) + (m : Int))])) l2 (.lst [.ref p, .ref p2])) := (s6.trans s7).add nl2'
      refine ⟨ll, l2, lvs, _, rfl, rfl, s8.at_ ll _ rfl hll, upd_same, Nat.le_of_lt (small1000 (by show lvs.length + 2 ≤ 1000; omega)), fun l3 nl3 => ?_⟩
      have t8 := (s8.tk).trans (Tk.new (o := .lst (lvs ++ [.ref p, .ref p2])) nl3)
      refine ⟨l3, lvs ++ [.ref p, .ref p2], _, _, _, rfl, upd_same, ?_, (s5.trans s8).add nl3⟩
      have e1 : dlinks m (ps.take (i + 1)) = dlinks m (ps.take i) ++ [(x, y), (x + m, y + m)] := by
        rw [List.take_add_one, ep]
        unfold dlinks
        rw [List.flatMap_append]
        rfl
      rw [e1]
      have tz : Tk H6 (upd (upd (upd H6 p2 (.tup [.int ((x : Int) + (m : Int)), .int ((y : Int) + (m : Int))])) l2 (.lst [.ref p, .ref p2])) l3 (.lst (lvs ++ [.ref p, .ref p2]))) := (s7.tk.trans (Tk.new nl2')).trans (Tk.new nl3)
      exact PApp (L2.Paired.mapP plv fun _ _ z => z.mono t8) (.cons (hp6.mono tz) (.cons (hp7.mono ((Tk.new nl2').trans (Tk.new nl3))) .nil))
    · obtain ⟨ll, lvs, x6, x7, x8, rfl, hll, plv, s5⟩ := h
      rw [hpvl, List.take_length] at plv
      have hlvl := plv.length
      rw [dlinks_len] at hlvl
      obtain ⟨j, ej⟩ : ∃ j : Nat, j = min pc ps.length := ⟨_, rfl⟩
      have hj : j ≤ ps.length := by omega
      have emin : (if ((pvs.length : Nat) : Int) < (pc : Int) then ((pvs.length : Nat) : Int) else (pc : Int)) = (j : Int) := by
        split <;> omega
      have hD5 := s5.at_ D _ rfl hD3
      have e2j : (2 : Int) * (j : Int) = ((2 * j : Nat) : Int) := by omega
      refine ⟨_, rfl, ?_⟩
      unfold tNoPart
      refine ⟨_, rfl, _, rfl, D, pvs, rfl, .inl (SqL.of hD5), _, _, rfl, 2, _, rfl, rfl, .inl ⟨by omega, by omega⟩, _, rfl, ll, lvs, rfl, SqL.of hll, fun p1 np1 => ?_⟩
      rw [emin, e2j, cut_lo (by omega)]
      have s6 : Sm H5 (upd H5 p1 (.lst (lvs.take (2 * j)))) := Sm.new np1
      have h61 : upd H5 p1 (.lst (lvs.take (2 * j))) p1 = some (.lst (lvs.take (2 * j))) := upd_same
      generalize upd H5 p1 (.lst (lvs.take (2 * j))) = H6 at s6 h61 ⊢
      refine ⟨_, rfl, _, rfl, _, rfl, _, _, rfl, rfl, by show 2 ≤ sizeLine; decide, fun tp ntp => ⟨by show 1 ≤ sizeLine; decide, fun l1 nl1 => ?_⟩⟩
      have s7 : Sm H6 (upd H6 tp (.tup [nI at_, .int ((at_ : Int) + (m : Int))])) := Sm.new ntp
      have hp7 : IsP (upd H6 tp (.tup [nI at_, .int ((at_ : Int) + (m : Int))])) (.ref tp) (at_, at_ + m) := ⟨tp, rfl, by rw [upd_same]; rfl⟩
      have nl1' : (upd H6 tp (.tup [nI at_, .int ((at_ : Int) + (m : Int))])) l1 = none := nl1
      have s8 : Sm H6 (upd (upd H6 tp (.tup [nI at_, .int ((at_ : Int) + (m : Int))])) l1 (.lst [.ref tp])) := s7.add nl1'
      refine ⟨p1, l1, _, [.ref tp], rfl, rfl, s8.at_ p1 _ rfl h61, upd_same, Nat.le_of_lt (small1000 (by rw [List.length_take]; show _ + 1 ≤ 1000; omega)), fun l2 nl2 => ?_⟩
      have h82 : (upd (upd (upd H6 tp (.tup [nI at_, .int ((at_ : Int) + (m : Int))])) l1 (.lst [.ref tp])) l2 (.lst (lvs.take (2 * j) ++ [.ref tp]))) l2 = some (.lst (lvs.take (2 * j) ++ [.ref tp])) := upd_same
      have s9 : Sm H6 (upd (upd (upd H6 tp (.tup [nI at_, .int ((at_ : Int) + (m : Int))])) l1 (.lst [.ref tp])) l2 (.lst (lvs.take (2 * j) ++ [.ref tp]))) := s8.add nl2
      have hp9 := hp7.mono ((Tk.new nl1').trans (Tk.new (o := .lst (lvs.take (2 * j) ++ [.ref tp])) nl2))
      generalize (upd (upd (upd H6 tp (.tup [nI at_, .int ((at_ : Int) + (m : Int))])) l1 (.lst [.ref tp])) l2 (.lst (lvs.take (2 * j) ++ [.ref tp]))) = H9 at h82 s9 hp9 ⊢
      have s59 := s6.trans s9
      refine ⟨_, rfl, _, rfl, _, rfl, D, pvs, rfl, .inl (SqL.of (s59.at_ D _ rfl hD5)), _, _, rfl, 2, _, rfl, rfl, .inl ⟨by omega, by omega⟩, _, rfl, ?_⟩
      refine ⟨ll, lvs, rfl, SqL.of (s59.at_ ll _ rfl hll), fun p3 np3 => ?_⟩
      rw [emin, e2j, cut_hi (by omega)]
      have s10 : Sm H9 (upd H9 p3 (.lst (lvs.drop (2 * j)))) := Sm.new np3
      refine ⟨l2, p3, _, _, rfl, rfl, s10.at_ l2 _ rfl h82, upd_same, Nat.le_of_lt (small1000 (by rw [List.length_append, List.length_take, List.length_drop]; show _ + 1 + _ ≤ 1000; omega)), fun l4 nl4 => ?_⟩
      have s11 : Sm H9 (upd (upd H9 p3 (.lst (lvs.drop (2 * j)))) l4 (.lst ((lvs.take (2 * j) ++ [.ref tp]) ++ lvs.drop (2 * j)))) := s10.add nl4
      have h4 : (upd (upd H9 p3 (.lst (lvs.drop (2 * j)))) l4 (.lst ((lvs.take (2 * j) ++ [.ref tp]) ++ lvs.drop (2 * j)))) l4 = some (.lst ((lvs.take (2 * j) ++ [.ref tp]) ++ lvs.drop (2 * j))) := upd_same
      have hp11 := hp9.mono s11.tk
      generalize (upd (upd H9 p3 (.lst (lvs.drop (2 * j)))) l4 (.lst ((lvs.take (2 * j) ++ [.ref tp]) ++ lvs.drop (2 * j)))) = H11 at s11 h4 hp11 ⊢
      have s511 := s59.trans s11
      have okW : Ok (linkW (dall m ps at_ j) (2 * m)) := dbl_ok m1 m3 (by omega) hps hat hj
      have pall : Paired (IsP H11) ((lvs.take (2 * j) ++ [.ref tp]) ++ lvs.drop (2 * j)) (dall m ps at_ j) := by
        unfold dall
        exact PApp (PApp (PTake _ (L2.Paired.mapP plv fun _ _ z => z.mono s511.tk)) (.cons hp11 .nil)) (PDrop _ (L2.Paired.mapP plv fun _ _ z => z.mono s511.tk))
      refine ⟨_, rfl, _, rfl, 2, _, rfl, rfl, .inl ⟨by omega, by omega⟩, l4, _, dall m ps at_ j, 2 * m, ?_, h4, pall, by omega, ?_, fun p hp => ?_, fun H12 pz s12 hw => q H12 pz _ (((dw13.sm s5).sm s511).sm s12) hw okW⟩
      · have e : (2 : Int) * (m : Int) = ((2 * m : Nat) : Int) := by omega
        have e2 : V.int ((2 : Int) * (m : Int)) = nI (2 * m) := congrArg V.int e
        show [V.ref l4, V.int ((2 : Int) * (m : Int))] = [V.ref l4, nI (2 * m)]
        rw [e2]
      · have := pall.length
        rw [List.length_append, List.length_append, List.length_take, List.length_drop] at this
        have e1 : ([V.ref tp] : List V).length = 1 := rfl
        omega
      · have hd : ∀ x ∈ dlinks m ps, x.1 < 2 * m ∧ x.2 < 2 * m ∧ x.1 ≠ x.2 := fun x hx => by
          unfold dlinks at hx
          rw [List.mem_flatMap] at hx
          obtain ⟨p', hp', hx2⟩ := hx
          obtain ⟨k, hk, ek⟩ := get_of_mem hp'
          obtain ⟨h1, h2⟩ := hps k p' ek
          rcases List.mem_cons.mp hx2 with rfl | hx3
          · exact ⟨by show p'.1 < 2 * m; omega, by show p'.2 < 2 * m; omega, by show p'.1 ≠ p'.2; omega⟩
          · rw [List.mem_singleton.mp hx3]
            exact ⟨by show p'.1 + m < 2 * m; omega, by show p'.2 + m < 2 * m; omega, by show p'.1 + m ≠ p'.2 + m; omega⟩
        unfold dall at hp
        rcases List.mem_append.mp hp with h | h
        · rcases List.mem_append.mp h with h | h
          · exact hd p (List.mem_of_mem_take h)
          · rw [List.mem_singleton.mp h]
            exact ⟨by show at_ < 2 * m; omega, by show at_ + m < 2 * m; omega, by show at_ ≠ at_ + m; omega⟩
        · exact hd p (List.mem_of_mem_drop h)
end
end K2
namespace K2
open PySem PySem.Spec PyProof.Rows L2
abbrev st_law_drawn : Stmt := topS 45
theorem sc_law_drawn : FnScope ["_law_row", "_law_many", "_law_pairs_here", "_law_used", "_law_room", "_law_one", "_law_free", "_law_turn", "_law_other", "_law_mixed_here"] ["_law_row", "_law_many"] (C8.fnScope st_law_drawn) := C8.fnScope_by (by decide +kernel)
-- slots: _law_row=0 _law_many=1 _law_pairs_here=2 _law_used=3 _law_room=4 _law_one=5 _law_free=6 _law_turn=7 _law_other=8 _law_mixed_here=9

section
variable {P : Program} {w : World} {K : PySem.W.Frag} {mg : Str → Option Value} {base : Heap}
def spDrawn (K : PySem.W.Frag) : Sp := fun vs H Q _ => ∃ (a sa : Addr) (ns : List Int) (n : Nat), vs = [.ref a, nI n] ∧ 2 ≤ n ∧ n ≤ 7 ∧ Rw K sa ns a H ∧ ∀ H' p W, Dw K sa ns a H H' → IsW H' (.ref p) W → Ok W → Q (.ref p) H'
theorem rep_nI (k : Nat) : (List.replicate k [V.int 0]).flatten = (List.replicate k 0).map nI := by
  induction k with
  | zero => rfl
  | succ k ih => rw [List.replicate_succ, List.replicate_succ, List.flatten_cons, ih]; rfl
theorem ixN_n {n j : Nat} (h : j < n) : ixN n (j : Int) = some j := by
  unfold ixN
  rw [if_pos (by omega), if_pos (by omega)]
  simp
/-- pairs.append((x, y)); used[x], used[y] = used[x] + 1, used[y] + 1 -/
theorem addpair {K : PySem.W.Frag} {i j : Nat} {σ : L2.St} {H : Hp} {pl us : Addr} {x y : Nat} {pvs : List V} {ps : List (Nat × Nat)} {u : List Nat} {D : Ends} (h2 : σ[2]? = some (some (.ref pl))) (h3 : σ[3]? = some (some (.ref us))) (hi : σ[i]? = some (some (nI x))) (hj : σ[j]? = some (some (nI y)))
    (hp : H pl = some (.lst pvs)) (pp : Paired (IsP H) pvs ps) (hu : H us = some (.lst (u.map nI))) (hpu : pl ≠ us) (hx : x < u.length) (hy : y < u.length) (hxy : x ≠ y) (hl : ps.length ≤ 100)
    {H0 : Hp} {a sa : Addr} {ns : List Int} (rw0 : Rw K sa ns a H0) (dw : Dw K sa ns a H0 H) (npl : H0 pl = none) (nus : H0 us = none)
    (fin : ∀ H' pvs', Dw K sa ns a H0 H' → Tk H H' → H' pl = some (.lst pvs') → Paired (IsP H') pvs' (ps ++ [(x, y)]) → H' us = some (.lst (((u.set x (u.getD x 0 + 1)).set y (u.getD y 0 + 1)).map nI)) → D.nx σ H') :
    tSeq (tDrop (tBM K "list" rAppend (tVar 2) (tCons (tTup (tCons (tVar i) (tCons (tVar j) tNil))) tNil)))
      (tAsg (tTup (tCons (tOp (rI0 fun i j => V.int (i + j)) (tOp (rIxL K) (tVar 3) (tVar i)) (tC (.int 1))) (tCons (tOp (rI0 fun i j => V.int (i + j)) (tOp (rIxL K) (tVar 3) (tVar j)) (tC (.int 1))) tNil))) (gTup K 2 (gCons (gSub (tVar 3) (tVar i) rSetL) (gCons (gSub (tVar 3) (tVar j) rSetL) gNil)))) D σ H := by
  have hpl := pp.length
  refine ⟨_, h2, .inl ⟨rfl, _, SqL.of hp⟩, _, hi, _, hj, by show 2 ≤ sizeLine; decide, fun p np => ?_⟩
  have s1 : Sm H (upd H p (.tup [nI x, nI y])) := Sm.new np
  have hp1 := s1.at_ pl _ rfl hp
  have hu1 := s1.at_ us _ rfl hu
  have hip : IsP (upd H p (.tup [nI x, nI y])) (.ref p) (x, y) := ⟨p, rfl, upd_same⟩
  refine ⟨pl, pvs, _, rfl, rfl, hp1, small1000 (by omega), ?_⟩
  have hu2 : (upd (upd H p (.tup [nI x, nI y])) pl (.lst (pvs ++ [.ref p]))) us = some (.lst (u.map nI)) := by rw [upd_ne hpu.symm]; exact hu1
  have hp2 : (upd (upd H p (.tup [nI x, nI y])) pl (.lst (pvs ++ [.ref p]))) pl = some (.lst (pvs ++ [.ref p])) := upd_same
  have tk2 : Tk (upd H p (.tup [nI x, nI y])) (upd (upd H p (.tup [nI x, nI y])) pl (.lst (pvs ++ [.ref p]))) := Tk.lst hp1
  have gx : (u.map nI)[x]? = some (nI (u.getD x 0)) := by rw [List.getElem?_map, List.getD_eq_getElem?_getD, List.getElem?_eq_getElem hx]; rfl
  have gy : (u.map nI)[y]? = some (nI (u.getD y 0)) := by rw [List.getElem?_map, List.getD_eq_getElem?_getD, List.getElem?_eq_getElem hy]; rfl
  refine ⟨_, h3, _, hi, r_ixL hu2 gx ⟨_, 1, rfl, rfl, _, h3, _, hj, r_ixL hu2 gy ⟨_, 1, rfl, rfl, by show 2 ≤ sizeLine; decide, fun t1 nt1 => ?_⟩⟩⟩
  refine ⟨t1, _, rfl, SqT.of upd_same, rfl, _, _, rfl, _, h3, _, hi, us, _, x, x, rfl, rfl, (Sm.new nt1).at_ us _ rfl hu2, ixN_n (by rw [List.length_map]; exact hx), ?_⟩
  have e1 : (u.map nI).set x (.int ((u.getD x 0 : Int) + 1)) = (u.set x (u.getD x 0 + 1)).map nI := List.map_set.symm
  have e2 : ((u.set x (u.getD x 0 + 1)).map nI).set y (.int ((u.getD y 0 : Int) + 1)) = ((u.set x (u.getD x 0 + 1)).set y (u.getD y 0 + 1)).map nI := List.map_set.symm
  refine ⟨_, _, rfl, _, h3, _, hj, us, _, y, y, rfl, rfl, upd_same, ixN_n (by rw [List.length_set, List.length_map]; exact hy), rfl, ?_⟩
  have z : ∀ Hz, Hz = upd (upd (upd (upd (upd H p (.tup [nI x, nI y])) pl (.lst (pvs ++ [.ref p]))) t1 (.tup [.int ((u.getD x 0 : Int) + 1), .int ((u.getD y 0 : Int) + 1)])) us (.lst ((u.map nI).set x (.int ((u.getD x 0 : Int) + 1))))) us (.lst (((u.map nI).set x (.int ((u.getD x 0 : Int) + 1))).set y (.int ((u.getD y 0 : Int) + 1)))) → D.nx σ Hz := by
    intro Hz ez
    rw [e1, e2] at ez
    have d2 : Dw K sa ns a H0 (upd (upd H p (.tup [nI x, nI y])) pl (.lst (pvs ++ [.ref p]))) := (dw.sm s1).mut rw0 npl
    have d3 := d2.add (o := .tup [.int ((u.getD x 0 : Int) + 1), .int ((u.getD y 0 : Int) + 1)]) nt1
    have k3 : Sm (upd (upd H p (.tup [nI x, nI y])) pl (.lst (pvs ++ [.ref p]))) (upd (upd (upd H p (.tup [nI x, nI y])) pl (.lst (pvs ++ [.ref p]))) t1 (.tup [.int ((u.getD x 0 : Int) + 1), .int ((u.getD y 0 : Int) + 1)])) := Sm.new nt1
    have hu3 := k3.at_ us _ rfl hu2
    have hp3 := k3.at_ pl _ rfl hp2
    have t3 : Tk (upd H p (.tup [nI x, nI y])) (upd (upd (upd H p (.tup [nI x, nI y])) pl (.lst (pvs ++ [.ref p]))) t1 (.tup [.int ((u.getD x 0 : Int) + 1), .int ((u.getD y 0 : Int) + 1)])) := tk2.trans k3.tk
    generalize (upd (upd (upd H p (.tup [nI x, nI y])) pl (.lst (pvs ++ [.ref p]))) t1 (.tup [.int ((u.getD x 0 : Int) + 1), .int ((u.getD y 0 : Int) + 1)])) = H3 at d3 hu3 hp3 t3 ez
    have t4 : Tk H3 (upd H3 us (.lst ((u.set x (u.getD x 0 + 1)).map nI))) := Tk.lst hu3
    have t5 : Tk (upd H3 us (.lst ((u.set x (u.getD x 0 + 1)).map nI))) Hz := by rw [ez]; exact Tk.lst upd_same
    have tz : Tk (upd H p (.tup [nI x, nI y])) Hz := t3.trans (t4.trans t5)
    refine fin Hz (pvs ++ [.ref p]) ?_ (s1.tk.trans tz) ?_ (PSnoc (L2.Paired.mapP pp fun _ _ z => z.mono (s1.tk.trans tz)) (hip.mono tz)) ?_
    · rw [ez]; exact (d3.mut rw0 nus).mut rw0 nus
    · rw [ez, upd_ne hpu, upd_ne hpu]; exact hp3
    · rw [ez, upd_same]
  exact z _ rfl
theorem PPerm {α β : Type} {F : α → β → Prop} {l m : List α} {ps : List β} (h : Paired F l ps) (p : m.Perm l) : ∃ qs, Paired F m qs ∧ qs.Perm ps := by
  induction p generalizing ps with
  | nil => cases h; exact ⟨[], .nil, .nil⟩
  | cons x _ ih =>
    cases h with
    | cons g t =>
      obtain ⟨qs, h1, h2⟩ := ih t
      exact ⟨_ :: qs, .cons g h1, h2.cons _⟩
  | swap x y l =>
    cases h with
    | cons g t =>
      cases t with
      | cons g2 t => exact ⟨_, .cons g2 (.cons g t), .swap _ _ _⟩
  | trans _ _ ih1 ih2 =>
    obtain ⟨qs, h1, h2⟩ := ih2 h
    obtain ⟨rs, h3, h4⟩ := ih1 h1
    exact ⟨rs, h3, h4.trans h2⟩
theorem get_nI {l : List Nat} {i : Nat} (h : i < l.length) : (l.map nI)[i]? = some (nI (l.getD i 0)) := by
  rw [List.getElem?_map, List.getD_eq_getElem?_getD, List.getElem?_eq_getElem h]; rfl
theorem set_nI (l : List Nat) (i v : Nat) : (l.map nI).set i (nI v) = (l.set i v).map nI := List.map_set.symm
theorem cal_law_drawn {f : Addr} {fd : FuncData} (F : C8.Def K mg "_law_drawn" st_law_drawn f fd) (b : Binds K fd ["_law_row", "_law_many"] []) (G : Glob mg) (c_law_taken : C8.Cal P w K mg base 1 "_law_taken" (spTaken K) []) (c_law_pick : C8.Cal P w K mg base 2 "_law_pick" (spPick K) []) (c_law_linked : C8.Cal P w K mg base 1 "_law_linked" spLinked []) : C8.Cal P w K mg base 3 "_law_drawn" (spDrawn K) [] := by
  refine C8.cal0 (k := 2) F b .nil sc_law_drawn (fun vs H Q E h => ?_) (fun cdv A outer s H vs Q E hr h => ?_)
  · obtain ⟨_, _, _, _, rfl, _⟩ := h
    rfl
  · obtain ⟨a, sa, ns, n, rfl, n2, n7, rw0, q⟩ := h
    refine ⟨_, (pss_cons (ps_asg (pe_tup (pa_cons (pe_lst pa_nil) (pa_cons (pe_op op_rep (pe_lst (pa_cons pe_int pa_nil)) (pv 1)) pa_nil))) (pg_tup rfl (pgs_cons (pg_name (i := 2) sc_law_drawn.nd rfl (.inl rfl)) (pgs_cons (pg_name (i := 3) sc_law_drawn.nd rfl (.inr rfl)) pgs_nil))))
    (pss_cons (ps_for PassesOwn.never rfl (pi_range2 (by rfl) G.range (pa_cons pe_int (pa_cons (pv 1) pa_nil))) (pg_name (i := 4) sc_law_drawn.nd rfl (.inl rfl)) 
      (pss_cons (ps_setLc (i := 6) (own := [("_law_one", 5)]) (g := gName 5) rfl sc_law_drawn.nd rfl rfl (sw_true rfl rfl rfl (by decide +kernel)) (pi_range1 (by rfl) G.range (pa_cons (pv 4) pa_nil)) (blkOk_by (own := [("_law_one", 5)]) (N := ["_law_row", "_law_many", "_law_pairs_here", "_law_used", "_law_room", "_law_one", "_law_free", "_law_turn", "_law_other", "_law_mixed_here"]) (sc := C8.fnScope st_law_drawn) (by decide +kernel)) (fun _ _ _ _ _ => (pg_name (i := 5) sc_law_drawn.nd rfl (.inl rfl))) (fun _ _ _ _ _ => pts_one (pt_cmpR op_lt (pe_ix (ix_listK (K := K) (by rfl)) (pv 3) (pv 5) (fun _ _ => rfl)) pe_int (nomark _))) (fun _ _ _ _ _ => (pv 5)))
      (pss_cons (ps_set (i := 5) sc_law_drawn.nd rfl (.inl rfl) (C8.pe_c c_law_pick hr (by decide) (by rfl) (pa_cons (pv 0) (pa_cons (pv 6) pa_nil))))
      (pss_cons (ps_expr (pe_bm PySem.F.plainAttrs_list PySem.F.slot_list_append PySem.F.type_list_append mt_append (pv 2) (pa_cons (pe_tup (pa_cons (pv 5) (pa_cons (pv 4) pa_nil))) pa_nil)))
      (pss_one (ps_asg (pe_tup (pa_cons (pe_op op_add (pe_ix ix_list (pv 3) (pv 5) (fun _ _ => rfl)) pe_int) (pa_cons (pe_op op_add (pe_ix ix_list (pv 3) (pv 4) (fun _ _ => rfl)) pe_int) pa_nil))) (pg_tup rfl (pgs_cons (pg_sub (pv 3) (pv 5) set_list) (pgs_cons (pg_sub (pv 3) (pv 4) set_list) pgs_nil)))))))))
    (pss_cons (ps_for PassesOwn.never rfl (pi_range1 (by rfl) G.range (pa_cons (C8.pe_c c_law_taken hr (by decide) (by rfl) (pa_cons (pv 0) (pa_cons pe_int pa_nil))) pa_nil)) (pg_name (i := 7) sc_law_drawn.nd rfl (.inl rfl)) 
      (pss_cons (ps_par (i := 5) (j := 8) (by rfl) sc_law_drawn.nd rfl rfl (by decide) rfl rfl (pa_cons (C8.pe_c c_law_taken hr (by decide) (by rfl) (pa_cons (pv 0) (pa_cons (pv 1) pa_nil))) (pa_cons (C8.pe_c c_law_taken hr (by decide) (by rfl) (pa_cons (pv 0) (pa_cons (pv 1) pa_nil))) pa_nil)) (by rfl))
      (pss_one (ps_if (PW.pt (pw_and (pt_cmpR op_ne (pv 5) (pv 8) (nomark _)) (pw_and (pt_cmpR op_lt (pe_ix ix_list (pv 3) (pv 5) (fun _ _ => rfl)) pe_int (nomark _)) (pw_and1 (pt_cmpR op_lt (pe_ix ix_list (pv 3) (pv 8) (fun _ _ => rfl)) pe_int (nomark _)))))) 
        (pss_cons (ps_expr (pe_bm PySem.F.plainAttrs_list PySem.F.slot_list_append PySem.F.type_list_append mt_append (pv 2) (pa_cons (pe_tup (pa_cons (pv 5) (pa_cons (pv 8) pa_nil))) pa_nil)))
        (pss_one (ps_asg (pe_tup (pa_cons (pe_op op_add (pe_ix ix_list (pv 3) (pv 5) (fun _ _ => rfl)) pe_int) (pa_cons (pe_op op_add (pe_ix ix_list (pv 3) (pv 8) (fun _ _ => rfl)) pe_int) pa_nil))) (pg_tup rfl (pgs_cons (pg_sub (pv 3) (pv 5) set_list) (pgs_cons (pg_sub (pv 3) (pv 8) set_list) pgs_nil)))))) pss_nil))))
    (pss_cons (ps_set (i := 9) sc_law_drawn.nd rfl (.inl rfl) (pe_lst pa_nil))
    (pss_cons (ps_while PassesOwn.never (pt_cmpR (op_neD hr.units) (pv 2) (pe_lst pa_nil) (nomark _)) 
      (pss_one (ps_expr (pe_bm PySem.F.plainAttrs_list PySem.F.slot_list_append PySem.F.type_list_append mt_append (pv 9) (pa_cons (pe_bm PySem.F.plainAttrs_list PySem.F.slot_list_pop PySem.F.type_list_pop mt_popAt (pv 2) (pa_cons (C8.pe_c c_law_taken hr (by decide) (by rfl) (pa_cons (pv 0) (pa_cons (pe_callB (id := "len") call_len_seq (by rfl) G.len (by decide +kernel) (pa_cons (pv 2) pa_nil)) pa_nil))) pa_nil)) pa_nil)))))
    (pss_one (ps_ret (C8.pe_c c_law_linked hr (by decide) (by rfl) (pa_cons (pv 9) (pa_cons (pv 1) pa_nil)))))))))), ?_⟩
    refine ⟨Nat.zero_le _, fun pl npl => ⟨by show 1 ≤ sizeLine; decide, fun l1 nl1 => ⟨_, rfl, l1, _, _, rfl, rfl, upd_same, by omega, by omega, by show 1 * n ≤ sizeLine; rw [sizeLine_eq]; omega, fun us nus => ?_⟩⟩⟩
    have erep : (List.replicate ((n : Nat) : Int).toNat [V.int 0]).flatten = (List.replicate n 0).map nI := by
      have e : ((n : Nat) : Int).toNat = n := rfl
      rw [e]
      exact rep_nI n
    rw [erep]
    obtain ⟨nl1a, nl1p⟩ := upd_no nl1
    obtain ⟨nusa, nus1⟩ := upd_no nus
    obtain ⟨nusb, nusp⟩ := upd_no nusa
    have dw0 : Dw K sa ns a H (upd (upd (upd H pl (.lst [])) l1 (.lst [.int 0])) us (.lst ((List.replicate n 0).map nI))) := (((Dw.refl rw0).add npl).add nl1).add nus
    have hp0 : (upd (upd (upd H pl (.lst [])) l1 (.lst [.int 0])) us (.lst ((List.replicate n 0).map nI))) pl = some (.lst []) := by rw [upd_ne nusp.symm, upd_ne nl1p.symm, upd_same]
    have hu0 : (upd (upd (upd H pl (.lst [])) l1 (.lst [.int 0])) us (.lst ((List.replicate n 0).map nI))) us = some (.lst ((List.replicate n 0).map nI)) := upd_same
    generalize (upd (upd (upd H pl (.lst [])) l1 (.lst [.int 0])) us (.lst ((List.replicate n 0).map nI))) = H0 at dw0 hp0 hu0 ⊢
    refine ⟨by show 2 ≤ sizeLine; decide, fun tp ntp => ⟨tp, _, rfl, SqT.of upd_same, rfl, _, _, rfl, _, _, rfl, rfl, ?_⟩⟩
    have dw1 := dw0.add (o := .tup [.ref pl, .ref us]) ntp
    have hp1 := (Sm.new (o := .tup [.ref pl, .ref us]) ntp).at_ pl _ rfl hp0
    have hu1 := (Sm.new (o := .tup [.ref pl, .ref us]) ntp).at_ us _ rfl hu0
    generalize upd H0 tp (.tup [.ref pl, .ref us]) = H1 at dw1 hp1 hu1 ⊢
    have npa : pl ≠ a := (rw0.nd npl).1
    have nua : us ≠ a := (rw0.nd nusb).1
    have npu : pl ≠ us := nusp.symm
    have npus : H us = none := nusb
    clear nus nus1 nusp nl1a nl1p nl1 ntp
    -- for room in range(1, n)
    have en : ((n : Int) - 1).toNat = n - 1 := by omega
    refine ⟨_, rfl, 1, (n : Int), rfl, ⟨by omega, by omega, by omega, by omega⟩, ?_⟩
    rw [en]
    refine for_range (lo := 1) (n := n - 1) (fun i σ2 H2 => ∃ (pvs : List V) (ps : List (Nat × Nat)) (u : List Nat) (x4 x5 x6 x7 x8 x9 : Option V), σ2 = [some (.ref a), some (nI n), some (.ref pl), some (.ref us), x4, x5, x6, x7, x8, x9] ∧ H2 pl = some (.lst pvs) ∧ Paired (IsP H2) pvs ps ∧ H2 us = some (.lst (u.map nI)) ∧ Dr n (i + 1) ps u ∧ ps.length = i ∧ (∀ p ∈ ps, p.1 < i + 1 ∧ p.2 < i + 1) ∧ Dw K sa ns a H H2)
      ⟨[], [], List.replicate n 0, _, _, _, _, _, _, rfl, hp1, .nil, hu1, Dr.start, rfl, fun p h => (by cases h), dw1⟩ (fun i σ2 H2 hi h => ?_) (fun σ2 H2 h => ?_)
    · obtain ⟨pvs, ps, u, x4, x5, x6, x7, x8, x9, rfl, hp2, pp2, hu2, dr, hpl, hpk, dw2⟩ := h
      have ei : V.int ((1 : Int) + (i : Int)) = nI (1 + i) := nI_add 1 i
      have e1i : (1 : Nat) + i = i + 1 := by omega
      rw [ei, e1i]
      have hul := dr.ul
      -- free = [...]
      refine ⟨_, rfl, _, rfl, by omega, by omega, fun D nD => ?_⟩
      have nHD : H D = none := dw2.sx.no D nD
      refine lc_it (walk_rg (n := i + 1)) (fun j Hj => ∃ fr : List Nat, Hj D = some (.lst (fr.map nI)) ∧ fr.length ≤ j ∧ (∀ x ∈ fr, x < i + 1 ∧ u.getD x 0 < 4) ∧ (∀ x, x < j → u.getD x 0 < 4 → x ∈ fr) ∧ Sm H2 Hj) ⟨[], upd_same, Nat.le_refl _, fun x h => (by cases h), fun x h => absurd h (by omega), Sm.new nD⟩ (fun _ _ _ _ => trivial) (fun j x Hj H' hj h hY => ?_) (fun Hj h => ?_)
      · obtain ⟨fr, hD, hfl, hfr, hfm, sj⟩ := h
        obtain ⟨rfl, rfl⟩ := hY
        refine ⟨rfl, _, rfl, _, rfl, r_ixL (sj.at_ us _ rfl hu2) (get_nI (i := j) (by omega)) ⟨_, 4, rfl, rfl, _, rfl, ifB (fun hlt => ?_) (fun hge => ?_)⟩⟩
        · have hlt2 := of_decide_eq_true hlt
          refine ⟨_, rfl, _, hD, by rw [List.length_map]; exact small1000 (by omega), fr ++ [j], by rw [upd_same, List.map_append]; rfl, by rw [List.length_append]; show fr.length + 1 ≤ j + 1; omega, fun x hx => ?_, fun x hx h4 => ?_, sj.mut nD⟩
          · rcases List.mem_append.mp hx with h | h
            · exact hfr x h
            · rw [List.mem_singleton.mp h]; exact ⟨hj, by omega⟩
          · by_cases c : x = j
            · rw [c]; exact List.mem_append_right _ (List.mem_singleton.mpr rfl)
            · exact List.mem_append_left _ (hfm x (by omega) h4)
        · have hge2 := of_decide_eq_false hge
          refine ⟨fr, hD, by omega, hfr, fun x hx h4 => ?_, sj⟩
          by_cases c : x = j
          · subst c; omega
          · exact hfm x (by omega) h4
      · obtain ⟨fr, hD, hfl, hfr, hfm, sj⟩ := h
        obtain ⟨xf, hxf, hxc⟩ := free_ex (k := i + 1) (by omega) (ps := ps) (by omega)
        have hxm : xf ∈ fr := hfm xf hxf (by rw [dr.cnt xf (by omega)]; exact hxc)
        have hfp := List.length_pos_of_mem hxm
        have dwj := dw2.sm sj
        have hDa : D ≠ a := (rw0.nd nHD).1
        refine ⟨_, rfl, _, rfl, a, sa, D, ns, _, rfl, dwj.rw_, hDa, hD, by rw [List.length_map]; exact hfp, by rw [List.length_map]; omega, fun H3 jx v dw3 hv => ?_⟩
        obtain ⟨x, hx, rfl⟩ := List.mem_map.mp (mem_of_get hv)
        obtain ⟨hxk, hx4⟩ := hfr x hx
        have dwx := dwj.trans dw3
        have tk3 : Tk H2 H3 := sj.tk.trans (dw3.tk dwj.rw_)
        have hp3 := dw3.lst (sj.at_ pl _ rfl hp2) npa rfl
        have hu3 := dw3.lst (sj.at_ us _ rfl hu2) nua rfl
        have hu0' : u.getD (i + 1) 0 < 4 := by
          rw [dr.cnt (i + 1) (by omega)]
          have z : K2.cnt (i + 1) ps = 0 := by
            unfold K2.cnt
            have c1 : ps.countP (fun p => decide (p.1 = i + 1)) = 0 := List.countP_eq_zero.mpr fun p hp => by
              have := (hpk p hp).1
              simp; omega
            have c2 : ps.countP (fun p => decide (p.2 = i + 1)) = 0 := List.countP_eq_zero.mpr fun p hp => by
              have := (hpk p hp).2
              simp; omega
            omega
          omega
        refine addpair (i := 5) (j := 4) (x := x) (y := i + 1) rfl rfl rfl rfl hp3 (L2.Paired.mapP pp2 fun _ _ z => z.mono tk3) hu3 npu (by omega) (by omega) (by omega) (by omega) rw0 dwx npl npus fun H4 pvs' dw4 tk4 hp4 pp4 hu4 => ?_
        refine ⟨pvs', ps ++ [(x, i + 1)], _, _, _, _, _, _, _, rfl, hp4, pp4, hu4, Dr.grow (x := x) (dr.link (by omega) (by omega) (by omega) hx4 hu0') hxk (List.mem_append_right _ (List.mem_singleton.mpr rfl)), by rw [List.length_append, hpl]; rfl, fun p hp => ?_, dw4⟩
        rcases List.mem_append.mp hp with h | h
        · have := hpk p h
          omega
        · rw [List.mem_singleton.mp h]
          exact ⟨by show x < _; omega, by show i + 1 < _; omega⟩
    · obtain ⟨pvs, ps, u, x4, x5, x6, x7, x8, x9, rfl, hp2, pp2, hu2, dr, hpl, hpk, dw2⟩ := h
      have ek : n - 1 + 1 = n := by omega
      rw [ek] at dr
      -- a few more
      refine ⟨_, rfl, a, sa, ns, 3, rfl, by omega, by omega, dw2.rw_, fun H3 tn dw3 htn => ⟨_, rfl, by omega, by omega, ?_⟩⟩
      have tk3 := dw3.tk dw2.rw_
      refine for_rg (n := tn) (fun i σ4 H4 => ∃ (pvs : List V) (ps : List (Nat × Nat)) (u : List Nat) (x4 x5 x6 x7 x8 x9 : Option V), σ4 = [some (.ref a), some (nI n), some (.ref pl), some (.ref us), x4, x5, x6, x7, x8, x9] ∧ H4 pl = some (.lst pvs) ∧ Paired (IsP H4) pvs ps ∧ H4 us = some (.lst (u.map nI)) ∧ Dr n n ps u ∧ ps.length ≤ n - 1 + i ∧ Dw K sa ns a H H4)
        ⟨pvs, ps, u, _, _, _, _, _, _, rfl, dw3.lst hp2 npa rfl, L2.Paired.mapP pp2 fun _ _ z => z.mono tk3, dw3.lst hu2 nua rfl, dr, by omega, dw2.trans dw3⟩ (fun i σ4 H4 hi h => ?_) (fun σ4 H4 h => ?_)
      · obtain ⟨pvs4, ps4, u4, y4, y5, y6, y7, y8, y9, rfl, hp4, pp4, hu4, dr4, hpl4, dw4⟩ := h
        refine ⟨_, rfl, _, rfl, a, sa, ns, n, rfl, by omega, by omega, dw4.rw_, fun H5 x dw5 hx => ⟨_, rfl, _, rfl, a, sa, ns, n, rfl, by omega, by omega, dw5.rw_, fun H6 y dw6 hy => ⟨_, _, rfl, ?_⟩⟩⟩
        have dw46 := dw5.trans dw6
        have dwt := dw4.trans dw46
        have tk6 := dw46.tk dw4.rw_
        have hp6 := dw46.lst hp4 npa rfl
        have hu6 := dw46.lst hu4 nua rfl
        have pp6 : Paired (IsP H6) pvs4 ps4 := L2.Paired.mapP pp4 fun _ _ z => z.mono tk6
        have hul := dr4.ul
        have stay : ∃ (pvs : List V) (ps : List (Nat × Nat)) (u : List Nat) (x4 x5 x6 x7 x8 x9 : Option V), [some (.ref a), some (nI n), some (.ref pl), some (.ref us), y4, some (nI x), y6, some (nI i), some (nI y), y9] = [some (.ref a), some (nI n), some (.ref pl), some (.ref us), x4, x5, x6, x7, x8, x9] ∧ H6 pl = some (.lst pvs) ∧ Paired (IsP H6) pvs ps ∧ H6 us = some (.lst (u.map nI)) ∧ Dr n n ps u ∧ ps.length ≤ n - 1 + (i + 1) ∧ Dw K sa ns a H H6 :=
          ⟨pvs4, ps4, u4, _, _, _, _, _, _, rfl, hp6, pp6, hu6, dr4, by omega, dwt⟩
        refine ⟨_, rfl, _, rfl, rfl, _, rfl, ?_⟩
        by_cases hxy : x = y
        · exact ifF (ne_no hxy) (iteF stay)
        · refine ifT (ne_yes hxy) ⟨_, rfl, _, rfl, r_ixL hu6 (get_nI (i := x) (by omega)) ⟨_, 4, rfl, rfl, _, rfl, ifB (fun hlt => ?_) (fun _ => iteF stay)⟩⟩
          have hx4 := of_decide_eq_true hlt
          refine ⟨_, rfl, _, rfl, r_ixL hu6 (get_nI (i := y) (by omega)) ⟨_, 4, rfl, rfl, _, rfl, ifB (fun hlt2 => ?_) (fun _ => stay)⟩⟩
          have hy4 := of_decide_eq_true hlt2
          refine addpair (i := 5) (j := 8) (x := x) (y := y) rfl rfl rfl rfl hp6 pp6 hu6 npu (by omega) (by omega) hxy (by omega) rw0 dwt npl npus fun H7 pvs' dw7 tk7 hp7 pp7 hu7 => ?_
          exact ⟨pvs', ps4 ++ [(x, y)], _, _, _, _, _, _, _, rfl, hp7, pp7, hu7, dr4.link hx hy hxy (by omega) (by omega), by rw [List.length_append]; show ps4.length + 1 ≤ _; omega, dw7⟩
      · obtain ⟨pvs4, ps4, u4, y4, y5, y6, y7, y8, y9, rfl, hp4, pp4, hu4, dr4, hpl4, dw4⟩ := h
        have hpvl := pp4.length
        refine ⟨Nat.zero_le _, fun ml nml => ?_⟩
        have nHm : H ml = none := dw4.sx.no ml nml
        have npm : pl ≠ ml := fun z => by rw [← z, hp4] at nml; cases nml
        refine shuffle (i := 2) (j := 9) rfl rfl rfl rw0 (dw4.add nml) ((Sm.new nml).at_ pl _ rfl hp4) upd_same npl nHm npm (by omega) (fun H' tk v hv => ?_) fun H8 ys dw8 tk8 hm8 pm => ?_
        · obtain ⟨j, _, e⟩ := get_of_mem hv
          obtain ⟨p, _, hpp⟩ := pget1 pp4 e
          exact ⟨_, dp_pair (hpp.mono ((Tk.new nml).trans tk)), shp_pair p⟩
        · have pp8 : Paired (IsP H8) pvs4 ps4 := L2.Paired.mapP pp4 fun _ _ z => z.mono ((Tk.new nml).trans tk8)
          obtain ⟨qs, pq, pmq⟩ := PPerm pp8 pm
          have okW := dr4.ok_ (Nat.le_refl n) n2 n7 pmq
          refine ⟨_, rfl, _, rfl, ml, ys, qs, n, rfl, hm8, pq, by omega, by rw [pmq.length_eq]; omega, fun p hp => dr4.ok p (pmq.mem_iff.mp hp), fun H9 p s9 hw => ?_⟩
          exact q H9 p _ (dw8.sm s9) hw okW
end
end K2
namespace K2
open PySem PySem.Spec PyProof.Rows L2
abbrev st_law_far : Stmt := topS 52
theorem sc_law_far : FnScope ["_law_web_here", "_law_one", "_law_other", "_law_here", "_law_steps", "_law_more", "_law_room", "_law_there", "_law_back"] ["_law_web_here", "_law_one", "_law_other"] (C8.fnScope st_law_far) := C8.fnScope_by (by decide +kernel)
-- slots: _law_web_here=0 _law_one=1 _law_other=2 _law_here=3 _law_steps=4 _law_more=5 _law_room=6 _law_there=7 _law_back=8

theorem inV_n {r : Nat} {l : List Nat} : inV (nI r) (l.map nI) = decide (r ∈ l) := by
  rw [Bool.eq_iff_iff, decide_eq_true_iff]
  unfold inV
  rw [List.any_eq_true]
  constructor
  · rintro ⟨x, hx, e⟩
    obtain ⟨y, hy, rfl⟩ := List.mem_map.mp hx
    have e2 : ((y : Int) == (r : Int)) = true := e
    have e3 := eq_of_beq e2
    have : y = r := by omega
    rw [← this]; exact hy
  · intro h
    refine ⟨nI r, List.mem_map.mpr ⟨r, h, rfl⟩, ?_⟩
    show ((r : Int) == (r : Int)) = true
    exact beq_self_eq_true _
theorem flat_n (l : List Nat) : (l.map nI).all flatV = true := by
  rw [List.all_map]
  exact List.all_eq_true.mpr fun _ _ => rfl
/-- come to in at most s steps -/
def Rch (W : Web) (a s x : Nat) : Prop := ∃ row, row.length ≤ s ∧ go W a row = some x
theorem rch_zero {W : Web} {a x : Nat} : Rch W a 0 x ↔ x = a := by
  constructor
  · rintro ⟨row, h, g⟩
    obtain rfl := List.eq_nil_of_length_eq_zero (Nat.le_zero.mp h)
    exact (Option.some.inj g).symm
  · rintro rfl
    exact ⟨[], Nat.le_refl _, rfl⟩
theorem rch_succ {W : Web} {a s x : Nat} : Rch W a (s + 1) x ↔ Rch W a s x ∨ ∃ y d bk, Rch W a s y ∧ door W y d = some (x, bk) := by
  constructor
  · rintro ⟨row, h, g⟩
    by_cases hl : row.length ≤ s
    · exact .inl ⟨row, hl, g⟩
    · have hne : row ≠ [] := fun e => by subst e; simp at hl
      have e := List.dropLast_concat_getLast hne
      rw [← e, go_append] at g
      cases g1 : go W a row.dropLast with
      | none => rw [g1] at g; cases g
      | some y =>
        rw [g1] at g
        have g2 : go W y [row.getLast hne] = some x := g
        rw [go_cons] at g2
        cases g3 : door W y (row.getLast hne) with
        | none => rw [g3] at g2; cases g2
        | some p =>
          rw [g3] at g2
          have g4 : some p.1 = some x := g2
          refine .inr ⟨y, row.getLast hne, p.2, ⟨row.dropLast, by rw [List.length_dropLast]; omega, g1⟩, ?_⟩
          rw [g3, ← Option.some.inj g4]
  · rintro (⟨row, h, g⟩ | ⟨y, d, bk, ⟨row, h, g⟩, hd⟩)
    · exact ⟨row, by omega, g⟩
    · exact ⟨row ++ [d], by rw [List.length_append]; show row.length + 1 ≤ s + 1; omega, go_snoc g hd⟩
theorem rch_ds {W : Web} {a s x : Nat} (h : Rch W a s x) (hn : ∀ j, j < s → ¬ Rch W a j x) : Ds W a x s := by
  obtain ⟨row, hl, g⟩ := h
  have e : row.length = s := by
    rcases Nat.lt_or_ge row.length s with z | z
    · exact absurd ⟨row, Nat.le_refl _, g⟩ (hn _ z)
    · omega
  refine ⟨lv_go.mpr ⟨row, e, g⟩, fun j hj hv => ?_⟩
  obtain ⟨row2, e2, g2⟩ := lv_go.mp hv
  exact hn j hj ⟨row2, by omega, g2⟩
theorem rch_dist {W : Web} (ok : Ok W) {a x : Nat} (ha : a < W.length) (hx : x < W.length) : Rch W a (dist W a x) x := by
  obtain ⟨row, e, g⟩ := lv_go.mp (dist_is ok ha hx).1
  exact ⟨row, by omega, g⟩
theorem nats_of {ns : List Int} (h : ∀ k ∈ ns, 0 ≤ k) : ∃ ms : List Nat, ns = ms.map fun x : Nat => (x : Int) := by
  refine ⟨ns.map Int.toNat, ?_⟩
  rw [List.map_map]
  have e : ns.map id = ns.map ((fun x : Nat => (x : Int)) ∘ Int.toNat) := List.map_congr_left fun k hk => by
    have := h k hk
    show k = ((k.toNat : Nat) : Int)
    omega
  rwa [List.map_id] at e
section
variable {P : Program} {w : World} {K : PySem.W.Frag} {mg : Str → Option Value} {base : Heap}
def spLFar : Sp := fun vs H Q _ => ∃ (wv : V) (W : Web) (x y : Nat), vs = [wv, nI x, nI y] ∧ IsW H wv W ∧ Ok W ∧ x < W.length ∧ y < W.length ∧ ∀ H', Sm H H' → Q (nI (dist W x y)) H'
theorem cal_law_far {f : Addr} {fd : FuncData} (F : C8.Def K mg "_law_far" st_law_far f fd) (b : Binds K fd ["_law_web_here", "_law_one", "_law_other"] []) (G : Glob mg) : C8.Cal P w K mg base 1 "_law_far" spLFar [] := by
  refine C8.cal0 (k := 0) F b .nil sc_law_far (fun vs H Q E h => ?_) (fun cdv A outer s H vs Q E hr h => ?_)
  · obtain ⟨_, _, _, _, rfl, _⟩ := h
    rfl
  · obtain ⟨wv, W, a, b, rfl, hW, ok, ha, hb, q⟩ := h
    refine ⟨_, (pss_cons (ps_par (i := 3) (j := 4) (by rfl) sc_law_far.nd rfl rfl (by decide) rfl rfl (pa_cons (pe_lst (pa_cons (pv 1) pa_nil)) (pa_cons pe_int pa_nil)) (by rfl))
    (pss_cons (ps_while PassesOwn.never (pt_cmpR op_notIn_seq (pv 2) (pv 3) (by rfl)) 
      (pss_cons (ps_set (i := 5) sc_law_far.nd rfl (.inl rfl) (pe_callTy (T := "list") call_list_of (by rfl) G.list (by decide +kernel) (pa_cons (pv 3) pa_nil)))
      (pss_cons (ps_for PassesOwn.never rfl (pi_list (pv 3)) (pg_name (i := 6) sc_law_far.nd rfl (.inl rfl)) 
        (pss_one (ps_set (i := 5) sc_law_far.nd rfl (.inl rfl) (pe_op op_cat (pv 5) (pe_lc (own := [("_law_there", 7), ("_law_back", 8)]) (g := gTup K 2 (gCons (gName 7) (gCons (gName 8) gNil))) (tt := tYes) rfl sc_law_far.nd (pi_tup (pe_ix ix_tup (pv 0) (pv 6) (fun _ _ => rfl))) (blkOk_by (own := [("_law_there", 7), ("_law_back", 8)]) (N := ["_law_web_here", "_law_one", "_law_other", "_law_here", "_law_steps", "_law_more", "_law_room", "_law_there", "_law_back"]) (sc := C8.fnScope st_law_far) (by decide +kernel)) (fun _ _ _ _ _ => (pg_tup rfl (pgs_cons (pg_name (i := 7) sc_law_far.nd rfl (.inl rfl)) (pgs_cons (pg_name (i := 8) sc_law_far.nd rfl (.inl rfl)) pgs_nil)))) (fun _ _ _ _ _ => pts_nil) (fun _ _ _ _ _ => (pv 7)))))))
      (pss_one (ps_par (i := 3) (j := 4) (by rfl) sc_law_far.nd rfl rfl (by decide) rfl rfl (pa_cons (pe_callB (id := "sorted") (cr_sortedSet rfl) (by rfl) G.sorted (by decide +kernel) (pa_cons (pe_callTy (T := "set") (cr_setOfI rfl) (by rfl) G.set (by decide +kernel) (pa_cons (pv 5) pa_nil)) pa_nil)) (pa_cons (pe_op op_add (pv 4) pe_int) pa_nil)) (by rfl))))))
    (pss_one (ps_ret (pv 4))))), ?_⟩
    have n7 := ok.n7
    refine ⟨_, rfl, by show 1 ≤ sizeLine; decide, fun la nla => ⟨_, _, rfl, ?_⟩⟩
    have s0 : Sm H (upd H la (.lst [nI a])) := Sm.new nla
    have l0 : upd H la (.lst [nI a]) la = some (.lst ([a].map nI)) := upd_same
    generalize upd H la (.lst [nI a]) = H0 at s0 l0 ⊢
    -- while other not in here
    refine ⟨fun m σ H1 => ∃ (st : Nat) (lb : Addr) (l : List Nat) (x5 x6 x7 x8 : Option V), σ = [some wv, some (nI a), some (nI b), some (.ref lb), some (nI st), x5, x6, x7, x8] ∧ H1 lb = some (.lst (l.map nI)) ∧ l.Nodup ∧ (∀ x, x ∈ l ↔ Rch W a st x) ∧ (∀ j, j < st → ¬ Rch W a j b) ∧ Sm H H1 ∧ m = dist W a b + 1 - st,
      ⟨_, 0, la, [a], none, none, none, none, rfl, l0, by simp, fun x => by rw [rch_zero, List.mem_singleton], fun j h => absurd h (by omega), s0, rfl⟩, ?_⟩
    intro m σ H1 hW1
    obtain ⟨st, lb, l, x5, x6, x7, x8, rfl, hl, lnd, lm, hno, sm, em⟩ := hW1
    have hlt : ∀ x ∈ l, x < W.length := fun x hx => by
      obtain ⟨row, _, g⟩ := (lm x).mp hx
      exact go_lt ok _ _ _ ha g
    have hlen : l.length ≤ 7 := by
      have z := nd_le l (List.range W.length) lnd fun x hx => List.mem_range.mpr (hlt x hx)
      rw [List.length_range] at z
      omega
    refine ⟨_, rfl, _, rfl, lb, _, rfl, .inl (SqL.of hl), rfl, flat_n l, ?_⟩
    rw [inV_n]
    by_cases hin : b ∈ l
    · rw [decide_eq_true hin]
      refine ⟨_, rfl, ifF rfl ⟨_, rfl, ?_⟩⟩
      have z := rch_ds ((lm b).mp hin) hno
      have e := dist_of z
      rw [← e]
      exact q H1 sm
    · rw [decide_eq_false hin]
      have hst : st < dist W a b := by
        rcases Nat.lt_or_ge st (dist W a b) with z | z
        · exact z
        · exfalso
          obtain ⟨row, h1, h2⟩ := rch_dist ok ha hb
          exact hin ((lm b).mpr ⟨row, by omega, h2⟩)
      refine ⟨_, rfl, ifT rfl ⟨fun σ' H' => ∃ m' : Nat, m' < m ∧ ∃ (st : Nat) (lb : Addr) (l : List Nat) (x5 x6 x7 x8 : Option V), σ' = [some wv, some (nI a), some (nI b), some (.ref lb), some (nI st), x5, x6, x7, x8] ∧ H' lb = some (.lst (l.map nI)) ∧ l.Nodup ∧ (∀ x, x ∈ l ↔ Rch W a st x) ∧ (∀ j, j < st → ¬ Rch W a j b) ∧ Sm H H' ∧ m' = dist W a b + 1 - st, fun σ' H' h => h, ?_⟩⟩
      -- more = list(here)
      refine ⟨_, rfl, lb, _, rfl, .inl (SqL.of hl), fun mo nmo => ?_⟩
      have s2 : Sm H1 (upd H1 mo (.lst (l.map nI))) := Sm.new nmo
      refine ⟨_, rfl, lb, rfl, ⟨_, SqL.of (s2.at_ lb _ rfl hl)⟩, for_list (xs := l.map nI) (fun i σ2 H2 => ∃ (mo : Addr) (ms : List Nat) (y6 y7 y8 : Option V), σ2 = [some wv, some (nI a), some (nI b), some (.ref lb), some (nI st), some (.ref mo), y6, y7, y8] ∧ H2 mo = some (.lst (ms.map nI)) ∧ ms.length ≤ 7 + 4 * i ∧ (∀ x, x ∈ ms ↔ x ∈ l ∨ ∃ (j y d bk : Nat), j < i ∧ l[j]? = some y ∧ door W y d = some (x, bk)) ∧ Sm H1 H2)
        ⟨mo, l, _, _, _, rfl, upd_same, by omega, fun x => ⟨.inl, fun h => h.elim id fun ⟨j, _, _, _, h, _⟩ => absurd h (by omega)⟩, s2⟩ (fun i σ2 H2 _ h => by obtain ⟨_, _, _, _, _, _, _, _, _, h⟩ := h; exact SqL.of (h.at_ lb _ rfl hl)) (fun i x σ2 H2 hx h => ?_) (fun σ2 H2 h => ?_)⟩
      · obtain ⟨mo2, ms, y6, y7, y8, rfl, hm, hml, hmm, s3⟩ := h
        rw [List.getElem?_map] at hx
        obtain ⟨r, hr1, hx2⟩ : ∃ r, l[i]? = some r ∧ x = nI r := by
          cases e : l[i]? with
          | none => rw [e] at hx; cases hx
          | some d => rw [e] at hx; exact ⟨d, rfl, (Option.some.inj hx).symm⟩
        subst hx2
        have hi := lt_of_get hr1
        have hrl := hlt r (mem_of_get hr1)
        refine ⟨_, rfl, _, rfl, _, rfl, r_web (hW.mono (sm.trans s3).tk) hrl fun ds dv e1 hds => ?_⟩
        obtain ⟨da, dvs, rfl, hda, pds⟩ := hds
        have hdl := pds.length
        have hd4 : ds.length ≤ 4 := (ok.deg _ _ e1).2
        refine ⟨da, rfl, ⟨_, SqT.of hda⟩, fun D nD => lc_tup (xs := dvs) (fun j Hj => Hj D = some (.lst (((ds.take j).map Prod.fst).map nI)) ∧ Sm H2 Hj) ⟨upd_same, Sm.new nD⟩ (fun j Hj _ h => SqT.of (h.2.tk _ _ hda)) (fun j y Hj hy h => ?_) (fun Hj h => ?_)⟩
        · obtain ⟨hD, sj⟩ := h
          obtain ⟨⟨t, bk⟩, ep, hp⟩ := pget1 pds hy
          refine r_un2 (hp.mono sj.tk) ⟨rfl, r_yes ⟨_, rfl, _, hD, by rw [List.length_map, List.length_map, List.length_take]; exact small1000 (by omega), ?_, sj.mut nD⟩⟩
          rw [upd_same, List.take_add_one, ep]
          show some (HO.lst _) = _
          rw [List.map_append, List.map_append]
          rfl
        · obtain ⟨hD, sj⟩ := h
          rw [hdl, List.take_length] at hD
          refine ⟨mo2, D, _, _, rfl, rfl, sj.at_ mo2 _ rfl hm, hD, ?_, fun p np => ?_⟩
          · rw [List.length_map, List.length_map, List.length_map]
            exact Nat.le_of_lt (small1000 (by omega))
          · refine ⟨p, ms ++ ds.map Prod.fst, _, _, _, rfl, by rw [upd_same, List.map_append], by rw [List.length_append, List.length_map]; omega, fun x => ?_, (s3.trans sj).add np⟩
            rw [List.mem_append, hmm x]
            constructor
            · rintro ((h | ⟨j, y, d, bk, h1, h2, h3⟩) | h)
              · exact .inl h
              · exact .inr ⟨j, y, d, bk, by omega, h2, h3⟩
              · obtain ⟨p, hp, e⟩ := List.mem_map.mp h
                obtain ⟨d, hd, e2⟩ := get_of_mem hp
                refine .inr ⟨i, r, d, p.2, by omega, hr1, ?_⟩
                rw [door_at e1, e2, ← e]
            · rintro (h | ⟨j, y, d, bk, h1, h2, h3⟩)
              · exact .inl (.inl h)
              · by_cases c : j = i
                · subst c
                  rw [hr1] at h2
                  obtain rfl := Option.some.inj h2
                  rw [door_at e1] at h3
                  exact .inr (List.mem_map.mpr ⟨_, mem_of_get h3, rfl⟩)
                · exact .inl (.inr ⟨j, y, d, bk, by omega, h2, h3⟩)
      · obtain ⟨mo2, ms, y6, y7, y8, rfl, hm, hml, hmm, s3⟩ := h
        rw [List.length_map] at hml hmm
        have hms : ms.map nI = (ms.map fun x : Nat => (x : Int)).map V.int := by rw [List.map_map]; rfl
        -- here, steps = sorted(set(more)), steps + 1
        refine ⟨_, rfl, mo2, _, rfl, SqL.of (by rw [← hms]; exact hm), by rw [List.length_map]; omega, fun sp n nsp hn => ?_⟩
        rw [List.length_map] at hn
        refine ⟨sp, _, n, rfl, upd_same, by omega, fun ns p asc mem hln np => ?_⟩
        obtain ⟨ks, rfl⟩ := nats_of (ns := ns) fun k hk => by
          have z := of_decide_eq_true ((mem k).mp hk)
          obtain ⟨x, _, e⟩ := List.mem_map.mp z
          omega
        have hks : (ks.map fun x : Nat => (x : Int)).map V.int = ks.map nI := by rw [List.map_map]; rfl
        have s4 : Sm H1 (upd (upd H2 sp (SetO w sp (fun j => decide (j ∈ ms.map fun x : Nat => (x : Int))) n)) p (.lst ((ks.map fun x : Nat => (x : Int)).map V.int))) := (s3.add nsp).add np
        refine ⟨_, rfl, _, _, rfl, rfl, _, _, rfl, _, ?_, st + 1, p, ks, _, _, _, _, rfl, by rw [upd_same, hks], ?_, fun x => ?_, fun j hj => ?_, sm.trans s4, rfl⟩
        · omega
        · have z := List.pairwise_map.mp asc
          exact List.Pairwise.imp (fun h e => by rw [e] at h; exact Int.lt_irrefl _ h) z
        · rw [rch_succ]
          have e1 : x ∈ ks ↔ x ∈ ms := by
            have z := mem (x : Int)
            rw [decide_eq_true_iff, List.mem_map, List.mem_map] at z
            constructor
            · intro h
              obtain ⟨y, hy, e⟩ := z.mp ⟨x, h, rfl⟩
              have : y = x := by omega
              rw [← this]; exact hy
            · intro h
              obtain ⟨y, hy, e⟩ := z.mpr ⟨x, h, rfl⟩
              have : y = x := by omega
              rw [← this]; exact hy
          rw [e1, hmm x, lm x]
          constructor
          · rintro (h | ⟨j, y, d, bk, h1, h2, h3⟩)
            · exact .inl h
            · exact .inr ⟨y, d, bk, (lm y).mp (mem_of_get h2), h3⟩
          · rintro (h | ⟨y, d, bk, h1, h2⟩)
            · exact .inl h
            · obtain ⟨j, hj, e⟩ := get_of_mem ((lm y).mpr h1)
              exact .inr ⟨j, y, d, bk, hj, e, h2⟩
        · by_cases c : j = st
          · subst c
            exact fun h => hin ((lm b).mpr h)
          · exact hno j (by omega)
end
end K2
namespace K2
open PySem PySem.Spec PyProof.Rows L2
abbrev st_law_cayley : Stmt := topS 41
theorem sc_law_cayley : FnScope ["_law_row", "_law_many", "_law_step", "_law_some", "_law_steps", "_law_one", "_law_mixed_here", "_law_rooms", "_law_room", "_law_doors", "_law_there"] ["_law_row"] (C8.fnScope st_law_cayley) := C8.fnScope_by (by decide +kernel)
-- slots: _law_row=0 _law_many=1 _law_step=2 _law_some=3 _law_steps=4 _law_one=5 _law_mixed_here=6 _law_rooms=7 _law_room=8 _law_doors=9 _law_there=10

theorem eqV_n (x y : Nat) : eqV (nI x) (nI y) = decide (x = y) := by
  show ((x : Int) == (y : Int)) = _
  by_cases h : x = y
  · subst h; simp
  · rw [decide_eq_false h]
    exact beq_eq_false_iff_ne.mpr fun z => h (by omega)
section
variable {P : Program} {w : World} {K : PySem.W.Frag} {mg : Str → Option Value} {base : Heap}
theorem cal_law_cayley {f : Addr} {fd : FuncData} (F : C8.Def K mg "_law_cayley" st_law_cayley f fd) (b : Binds K fd ["_law_row"] []) (G : Glob mg) (c_law_taken : C8.Cal P w K mg base 1 "_law_taken" (spTaken K) []) : C8.Cal P w K mg base 3 "_law_cayley" (spGen K) [] := by
  refine C8.cal0 (k := 2) F b .nil sc_law_cayley (fun vs H Q E h => ?_) (fun cdv A outer s H vs Q E hr h => ?_)
  · obtain ⟨_, _, _, rfl, _⟩ := h
    rfl
  · obtain ⟨a, sa, ns, rfl, rw0, q⟩ := h
    refine ⟨_, (pss_cons (ps_set (i := 1) sc_law_cayley.nd rfl (.inr rfl) (pe_op op_add pe_int (C8.pe_c c_law_taken hr (by decide) (by rfl) (pa_cons (pv 0) (pa_cons pe_int pa_nil)))))
    (pss_cons (ps_setLc (i := 3) (own := [("_law_step", 2)]) (g := gName 2) rfl sc_law_cayley.nd rfl rfl (sw_true rfl rfl rfl (by decide +kernel)) (pi_range2 (by rfl) G.range (pa_cons pe_int (pa_cons (pv 1) pa_nil))) (blkOk_by (own := [("_law_step", 2)]) (N := ["_law_row", "_law_many", "_law_step", "_law_some", "_law_steps", "_law_one", "_law_mixed_here", "_law_rooms", "_law_room", "_law_doors", "_law_there"]) (sc := C8.fnScope st_law_cayley) (by decide +kernel)) (fun _ _ _ _ _ => (pg_name (i := 2) sc_law_cayley.nd rfl (.inl rfl))) (fun _ _ _ _ _ => pts_one (PW.pt (pw_or (pt_cmpR op_eq (C8.pe_c c_law_taken hr (by decide) (by rfl) (pa_cons (pv 0) (pa_cons pe_int pa_nil))) pe_int (nomark _)) (pw_or1 (pt_cmpR op_eq (pv 2) pe_int (nomark _)))))) (fun _ _ _ _ _ => (pv 2)))
    (pss_cons (ps_set (i := 4) sc_law_cayley.nd rfl (.inr rfl) (pe_lst pa_nil))
    (pss_cons (ps_for PassesOwn.never rfl (pi_list (pv 3)) (pg_name (i := 2) sc_law_cayley.nd rfl (.inl rfl)) 
      (pss_one (ps_for PassesOwn.never rfl (pi_list (pe_lst (pa_cons (pv 2) (pa_cons (pe_op op_sub (pv 1) (pv 2)) pa_nil)))) (pg_name (i := 5) sc_law_cayley.nd rfl (.inl rfl)) 
        (pss_one (ps_if (PW.pt (pw_and (pt_cmpR op_notIn_seq (pv 5) (pv 4) (by rfl)) (pw_and1 (pt_cmpR op_lt (pe_callB (id := "len") call_len_seq (by rfl) G.len (by decide +kernel) (pa_cons (pv 4) pa_nil)) pe_int (nomark _))))) 
          (pss_one (ps_expr (pe_bm PySem.F.plainAttrs_list PySem.F.slot_list_append PySem.F.type_list_append mt_append (pv 4) (pa_cons (pv 5) pa_nil)))) pss_nil)))))
    (pss_cons (ps_set (i := 4) sc_law_cayley.nd rfl (.inr rfl) (pe_lc (own := [("_law_step", 2)]) (g := gName 2) rfl sc_law_cayley.nd (pi_list (pv 4)) (blkOk_by (own := [("_law_step", 2)]) (N := ["_law_row", "_law_many", "_law_step", "_law_some", "_law_steps", "_law_one", "_law_mixed_here", "_law_rooms", "_law_room", "_law_doors", "_law_there"]) (sc := C8.fnScope st_law_cayley) (by decide +kernel)) (fun _ _ _ _ _ => (pg_name (i := 2) sc_law_cayley.nd rfl (.inl rfl))) (fun _ _ _ _ _ => pts_one (pt_cmpR (op_in_seqK (K := K) (by rfl)) (pe_op op_sub (pv 1) (pv 2)) (pv 4) (by rfl))) (fun _ _ _ _ _ => (pv 2))))
    (pss_cons (ps_set (i := 6) sc_law_cayley.nd rfl (.inl rfl) (pe_lst pa_nil))
    (pss_cons (ps_while PassesOwn.never (pt_cmpR (op_neD hr.units) (pv 4) (pe_lst pa_nil) (nomark _)) 
      (pss_one (ps_expr (pe_bm PySem.F.plainAttrs_list PySem.F.slot_list_append PySem.F.type_list_append mt_append (pv 6) (pa_cons (pe_bm PySem.F.plainAttrs_list PySem.F.slot_list_pop PySem.F.type_list_pop mt_popAt (pv 4) (pa_cons (C8.pe_c c_law_taken hr (by decide) (by rfl) (pa_cons (pv 0) (pa_cons (pe_callB (id := "len") call_len_seq (by rfl) G.len (by decide +kernel) (pa_cons (pv 4) pa_nil)) pa_nil))) pa_nil)) pa_nil)))))
    (pss_cons (ps_set (i := 7) sc_law_cayley.nd rfl (.inl rfl) (pe_lst pa_nil))
    (pss_cons (ps_for PassesOwn.never rfl (pi_range1 (by rfl) G.range (pa_cons (pv 1) pa_nil)) (pg_name (i := 8) sc_law_cayley.nd rfl (.inl rfl)) 
      (pss_cons (ps_set (i := 9) sc_law_cayley.nd rfl (.inl rfl) (pe_lst pa_nil))
      (pss_cons (ps_for PassesOwn.never rfl (pi_list (pv 6)) (pg_name (i := 2) sc_law_cayley.nd rfl (.inl rfl)) 
        (pss_cons (ps_set (i := 10) sc_law_cayley.nd rfl (.inl rfl) (pe_op op_sub (pe_op op_add (pv 8) (pv 2)) (pe_ifExp (pt_cmpR op_ge (pe_op op_add (pv 8) (pv 2)) (pv 1) (nomark _)) (pv 1) pe_int)))
        (pss_one (ps_expr (pe_bm PySem.F.plainAttrs_list PySem.F.slot_list_append PySem.F.type_list_append mt_append (pv 9) (pa_cons (pe_tup (pa_cons (pv 10) (pa_cons (pe_bm PySem.F.plainAttrs_list PySem.F.slot_list_index PySem.F.type_list_index mt_index (pv 6) (pa_cons (pe_op op_sub (pv 1) (pv 2)) pa_nil)) pa_nil))) pa_nil))))))
      (pss_one (ps_expr (pe_bm PySem.F.plainAttrs_list PySem.F.slot_list_append PySem.F.type_list_append mt_append (pv 7) (pa_cons (pe_tupleOf (by rfl) G.tuple (pv 9)) pa_nil)))))))
    (pss_one (ps_ret (pe_tupleOf (by rfl) G.tuple (pv 7))))))))))))), ?_⟩
    refine ⟨_, rfl, a, sa, ns, 6, rfl, by omega, by omega, rw0, fun H1 v dw1 hv => ⟨2, _, rfl, rfl, ?_⟩⟩
    obtain ⟨m, hm⟩ : ∃ m, m = 2 + v := ⟨_, rfl⟩
    have em : V.int ((2 : Int) + (v : Int)) = nI m := by rw [hm]; exact nI_add 2 v
    show tSeq _ _ _ (List.set _ 1 (some (V.int ((2 : Int) + (v : Int))))) H1
    rw [em]
    have m2 : 2 ≤ m := by omega
    have m7 : m ≤ 7 := by omega
    clear em
    have emn : ((m : Int) - 1).toNat = m - 1 := by omega
    refine ⟨_, rfl, 1, (m : Int), rfl, ⟨by omega, by omega, by omega, by omega⟩, fun D nD => ?_⟩
    rw [emn]
    have nHD : H D = none := dw1.sx.no D nD
    have hDa : D ≠ a := (rw0.nd nHD).1
    refine lc_it (walk_range (lo := 1) (n := m - 1)) (fun i Hc => ∃ fr : List Nat, Hc D = some (.lst (fr.map nI)) ∧ fr.length ≤ i ∧ (∀ x ∈ fr, 1 ≤ x ∧ x < m) ∧ (0 < i → ∃ r, fr = 1 :: r) ∧ (i = 0 → fr = []) ∧ Dw K sa ns a H Hc) ⟨[], upd_same, Nat.le_refl _, fun x h => (by cases h), fun z => absurd z (by omega), fun _ => rfl, dw1.mut rw0 nHD⟩ (fun _ _ _ _ => trivial) (fun i x Hc H' hi h hY => ?_) (fun Hc h => ?_)
    · obtain ⟨fr, hD, hfl, hfr, hf1, hf0, dwc⟩ := h
      obtain ⟨rfl, rfl⟩ := hY
      have ei : V.int ((1 : Int) + (i : Int)) = nI (1 + i) := nI_add 1 i
      show gName 2 (V.int ((1 : Int) + (i : Int))) _ _ _
      rw [ei]
      refine ⟨rfl, _, rfl, a, sa, ns, 3, rfl, by omega, by omega, dwc.rw_, fun H2 u dw2 hu => ?_⟩
      have dw12 := dwc.trans dw2
      have hD2 := dw2.lst hD hDa rfl
      have keep : ∃ acc, H2 D = some (.lst acc) ∧ acc.length < sizeLine ∧ ∃ fr : List Nat, (upd H2 D (.lst (acc ++ [nI (1 + i)]))) D = some (.lst (fr.map nI)) ∧ fr.length ≤ i + 1 ∧ (∀ x ∈ fr, 1 ≤ x ∧ x < m) ∧ (0 < i + 1 → ∃ r, fr = 1 :: r) ∧ (i + 1 = 0 → fr = []) ∧ Dw K sa ns a H (upd H2 D (.lst (acc ++ [nI (1 + i)]))) := by
        refine ⟨_, hD2, by rw [List.length_map]; exact small1000 (by omega), fr ++ [1 + i], by rw [upd_same, List.map_append]; rfl, by rw [List.length_append]; show fr.length + 1 ≤ i + 1; omega, fun x hx => ?_, fun _ => ?_, fun z => absurd z (by omega), dw12.mut rw0 nHD⟩
        · rcases List.mem_append.mp hx with h | h
          · exact hfr x h
          · rw [List.mem_singleton.mp h]; omega
        · rcases Nat.eq_zero_or_pos i with z | z
          · rw [hf0 z, z]; exact ⟨[], rfl⟩
          · obtain ⟨r, e⟩ := hf1 z
            exact ⟨r ++ [1 + i], by rw [e]; rfl⟩
      refine ⟨rfl, _, rfl, ?_⟩
      by_cases hu0 : u = 0
      · refine ifT (eq_yes (a := u) (b := 0) hu0) (ifT rfl ⟨_, rfl, keep⟩)
      · refine ifF (eq_no (a := u) (b := 0) hu0) ⟨_, rfl, rfl, _, rfl, ?_⟩
        by_cases hi1 : 1 + i = 1
        · exact ifT (eq_yes (a := 1 + i) (b := 1) hi1) ⟨_, rfl, keep⟩
        · refine ifF (eq_no (a := 1 + i) (b := 1) hi1) ⟨fr, hD2, by omega, hfr, fun _ => hf1 (by omega), fun z => absurd z (by omega), dw12⟩
    obtain ⟨fr, hD, hfl, hfr, hf1, _, dwc⟩ := h
    obtain ⟨fr0, hfr0⟩ := hf1 (by omega)
    -- steps = []
    refine ⟨Nat.zero_le _, fun sl nsl => ?_⟩
    have nHs : H sl = none := dwc.sx.no sl nsl
    have nsD : sl ≠ D := fun z => by rw [z, hD] at nsl; cases nsl
    have s2 : Sm Hc (upd Hc sl (.lst [])) := Sm.new nsl
    refine ⟨_, rfl, D, rfl, ⟨_, SqL.of (s2.at_ D _ rfl hD)⟩, for_list (xs := fr.map nI) (fun i σ3 H3 => ∃ (st : List Nat) (x2 x5 x6 x7 x8 x9 x10 : Option V), σ3 = [some (.ref a), some (nI m), x2, some (.ref D), some (.ref sl), x5, x6, x7, x8, x9, x10] ∧ H3 sl = some (.lst (st.map nI)) ∧ st.Nodup ∧ (∀ x ∈ st, 1 ≤ x ∧ x < m) ∧ st.length ≤ 4 ∧ (i = 0 → st = []) ∧ (0 < i → 1 ∈ st ∧ m - 1 ∈ st) ∧ Sm Hc H3)
      ⟨[], _, _, _, _, _, _, _, rfl, upd_same, List.nodup_nil, fun x h => (by cases h), Nat.zero_le _, fun _ => rfl, fun z => absurd z (by omega), s2⟩ (fun i σ3 H3 _ h => by obtain ⟨_, _, _, _, _, _, _, _, _, _, _, _, _, _, _, h⟩ := h; exact SqL.of (h.at_ D _ rfl hD)) (fun i x σ3 H3 hx h => ?_) (fun σ3 H3 h => ?_)⟩
    · obtain ⟨st, x2, x5, x6, x7, x8, x9, x10, rfl, hs3, snd, sbd, sl4, s0, s1, sm3⟩ := h
      rw [List.getElem?_map] at hx
      obtain ⟨t, ht, hx2⟩ : ∃ t, fr[i]? = some t ∧ x = nI t := by
        cases e : fr[i]? with
        | none => rw [e] at hx; cases hx
        | some d => rw [e] at hx; exact ⟨d, rfl, (Option.some.inj hx).symm⟩
      subst hx2
      obtain ⟨ht1, htm⟩ := hfr t (mem_of_get ht)
      have hti : i = 0 → t = 1 := fun z => by rw [z, hfr0] at ht; exact (Option.some.inj ht).symm
      refine ⟨_, rfl, _, rfl, _, rfl, _, _, rfl, rfl, by show 2 ≤ sizeLine; decide, fun l2 nl2 => ?_⟩
      have s4 : Sm H3 (upd H3 l2 (.lst [nI t, .int ((m : Int) - (t : Int))])) := Sm.new nl2
      have e2 : ([nI t, .int ((m : Int) - (t : Int))] : List V) = [t, m - t].map nI := by rw [nI_sub (by omega)]; rfl
      have hl2 : (upd H3 l2 (.lst [nI t, .int ((m : Int) - (t : Int))])) l2 = some (.lst ([t, m - t].map nI)) := by rw [upd_same, e2]
      have hs4 := s4.at_ sl _ rfl hs3
      have n2s : l2 ≠ sl := fun z => by rw [z, hs3] at nl2; cases nl2
      have sm4 := sm3.trans s4
      generalize upd H3 l2 (.lst [nI t, .int ((m : Int) - (t : Int))]) = H4 at hl2 hs4 sm4 ⊢
      refine ⟨l2, rfl, ⟨_, SqL.of hl2⟩, for_list (xs := [t, m - t].map nI) (fun j σ5 H5 => ∃ (st5 : List Nat) (x5 : Option V), σ5 = [some (.ref a), some (nI m), some (nI t), some (.ref D), some (.ref sl), x5, x6, x7, x8, x9, x10] ∧ H5 sl = some (.lst (st5.map nI)) ∧ st5.Nodup ∧ (∀ x ∈ st5, 1 ≤ x ∧ x < m) ∧ st5.length ≤ 4 ∧ (i = 0 → st5.length ≤ j ∧ (0 < j → 1 ∈ st5) ∧ (1 < j → m - 1 ∈ st5)) ∧ (∀ x ∈ st, x ∈ st5) ∧ Sm Hc H5 ∧ H5 l2 = some (.lst ([t, m - t].map nI)))
        ⟨st, _, rfl, hs4, snd, sbd, sl4, fun z => ⟨by rw [s0 z]; exact Nat.le_refl _, fun z => absurd z (by omega), fun z => absurd z (by omega)⟩, fun x h => h, sm4, hl2⟩ (fun j σ5 H5 _ h => by obtain ⟨_, _, _, _, _, _, _, _, _, _, h⟩ := h; exact SqL.of h) (fun j x σ5 H5 hx h => ?_) (fun σ5 H5 h => ?_)⟩
      · obtain ⟨st5, x5, rfl, hs5, snd5, sbd5, sl5, s05, ss5, sm5, hl5⟩ := h
        rw [List.getElem?_map] at hx
        obtain ⟨o, ho, hx2⟩ : ∃ o, [t, m - t][j]? = some o ∧ x = nI o := by
          cases e : [t, m - t][j]? with
          | none => rw [e] at hx; cases hx
          | some d => rw [e] at hx; exact ⟨d, rfl, (Option.some.inj hx).symm⟩
        subst hx2
        have hob : 1 ≤ o ∧ o < m ∧ (j = 0 → o = t) ∧ (j = 1 → o = m - t) ∧ j < 2 := by
          rcases j with _ | _ | j
          · have := Option.some.inj ho; exact ⟨by omega, by omega, fun _ => this.symm, fun z => by omega, by omega⟩
          · have := Option.some.inj ho; exact ⟨by omega, by omega, fun z => by omega, fun _ => this.symm, by omega⟩
          · simp at ho
        obtain ⟨ho1, hom, hoj0, hoj1, hj2⟩ := hob
        refine ⟨_, rfl, _, rfl, sl, _, rfl, .inl (SqL.of hs5), rfl, flat_n st5, ?_⟩
        rw [inV_n]
        by_cases hin : o ∈ st5
        · rw [decide_eq_true hin]
          refine ⟨_, rfl, ifF rfl (iteF ⟨st5, _, rfl, hs5, snd5, sbd5, sl5, fun z => ?_, ss5, sm5, hl5⟩)⟩
          obtain ⟨z1, z2, z3⟩ := s05 z
          have ht := hti z
          refine ⟨by omega, fun _ => ?_, fun zj => ?_⟩
          · rcases Nat.eq_zero_or_pos j with c | c
            · rw [hoj0 c, ht] at hin; exact hin
            · exact z2 c
          · have c : j = 1 := by omega
            rw [hoj1 c, ht] at hin; exact hin
        · rw [decide_eq_false hin]
          refine ⟨_, rfl, ifT rfl ⟨_, rfl, sl, _, rfl, .inl (SqL.of hs5), _, 4, rfl, rfl, _, rfl, ifB (fun hlt => ?_) (fun hge => ?_)⟩⟩
          · have hlt2 := of_decide_eq_true hlt
            rw [List.length_map] at hlt2
            refine ⟨_, rfl, .inl ⟨rfl, _, SqL.of hs5⟩, _, rfl, sl, _, _, rfl, rfl, hs5, by rw [List.length_map]; exact small1000 (by omega), ?_⟩
            refine ⟨st5 ++ [o], _, rfl, by rw [upd_same, List.map_append]; rfl, ?_, fun x hx => ?_, by rw [List.length_append]; show st5.length + 1 ≤ 4; omega, fun z => ?_, fun x hx => List.mem_append_left _ (ss5 x hx), sm5.mut nsl, by rw [upd_ne n2s]; exact hl5⟩
            · rw [List.nodup_append]
              refine ⟨snd5, by simp, fun x hx y hy => ?_⟩
              rw [List.mem_singleton.mp hy]
              exact fun z => hin (z ▸ hx)
            · rcases List.mem_append.mp hx with h | h
              · exact sbd5 x h
              · rw [List.mem_singleton.mp h]; exact ⟨ho1, hom⟩
            · obtain ⟨z1, z2, z3⟩ := s05 z
              have ht := hti z
              refine ⟨by rw [List.length_append]; show st5.length + 1 ≤ j + 1; omega, fun _ => ?_, fun zj => ?_⟩
              · rcases Nat.eq_zero_or_pos j with c | c
                · rw [hoj0 c, ht]; exact List.mem_append_right _ (List.mem_singleton.mpr rfl)
                · exact List.mem_append_left _ (z2 c)
              · have c : j = 1 := by omega
                rw [hoj1 c, ht]; exact List.mem_append_right _ (List.mem_singleton.mpr rfl)
          · have hge2 := of_decide_eq_false hge
            rw [List.length_map] at hge2
            refine ⟨st5, _, rfl, hs5, snd5, sbd5, sl5, fun z => ?_, ss5, sm5, hl5⟩
            obtain ⟨z1, z2, z3⟩ := s05 z
            omega
      · obtain ⟨st5, x5, rfl, hs5, snd5, sbd5, sl5, s05, ss5, sm5, hl5⟩ := h
        refine ⟨st5, _, _, _, _, _, _, _, rfl, hs5, snd5, sbd5, sl5, fun z => absurd z (by omega), fun _ => ?_, sm5⟩
        rcases Nat.eq_zero_or_pos i with c | c
        · obtain ⟨z1, z2, z3⟩ := s05 c
          exact ⟨z2 (by show 0 < 2; omega), z3 (by show 1 < 2; omega)⟩
        · exact ⟨ss5 _ (s1 c).1, ss5 _ (s1 c).2⟩
    · obtain ⟨st, x2, x5, x6, x7, x8, x9, x10, rfl, hs3, snd, sbd, sl4, s0, s1, sm3⟩ := h
      obtain ⟨in1, inm⟩ := s1 (by rw [List.length_map, hfr0]; exact Nat.succ_pos _)
      -- steps = [step for step in steps if many - step in steps]
      refine ⟨_, rfl, sl, rfl, ⟨_, SqL.of hs3⟩, fun D2 nD2 => lc_list (xs := st.map nI) (fun j Hj => Hj D2 = some (.lst (((st.take j).filter fun x => decide (m - x ∈ st)).map nI)) ∧ Sm H3 Hj) ⟨upd_same, Sm.new nD2⟩ (fun j Hj _ h => SqL.of (h.2.at_ sl _ rfl hs3)) (fun j x Hj hx h => ?_) (fun Hj h => ?_)⟩
      · obtain ⟨hD2, sj⟩ := h
        rw [List.getElem?_map] at hx
        obtain ⟨t, ht, hx2⟩ : ∃ t, st[j]? = some t ∧ x = nI t := by
          cases e : st[j]? with
          | none => rw [e] at hx; cases hx
          | some d => rw [e] at hx; exact ⟨d, rfl, (Option.some.inj hx).symm⟩
        subst hx2
        obtain ⟨ht1, htm⟩ := sbd t (mem_of_get ht)
        have hj := lt_of_get ht
        have tk1 : st.take (j + 1) = st.take j ++ [t] := by rw [List.take_add_one, ht]; rfl
        have esub : V.int ((m : Int) - (t : Int)) = nI (m - t) := nI_sub (by omega)
        refine ⟨rfl, _, rfl, _, rfl, _, _, rfl, rfl, _, rfl, sl, _, rfl, .inl (SqL.of (sj.at_ sl _ rfl hs3)), rfl, flat_n st, ?_⟩
        show ∃ k, V.bl (inV (V.int ((m : Int) - (t : Int))) (st.map nI)) = V.bl k ∧ _
        rw [esub, inV_n]
        by_cases hin : m - t ∈ st
        · rw [decide_eq_true hin]
          refine ⟨_, rfl, iteT ⟨_, rfl, _, hD2, ?_, ?_, sj.mut nD2⟩⟩
          · rw [List.length_map]
            have := List.length_filter_le (fun x => decide (m - x ∈ st)) (st.take j)
            rw [List.length_take] at this
            exact small1000 (by omega)
          · rw [upd_same, tk1, List.filter_append, List.map_append]
            have e : [t].filter (fun x => decide (m - x ∈ st)) = [t] := by
              rw [List.filter_cons_of_pos (by rw [decide_eq_true hin])]; rfl
            rw [e]
            rfl
        · rw [decide_eq_false hin]
          refine ⟨_, rfl, iteF ⟨?_, sj⟩⟩
          rw [tk1, List.filter_append]
          have e : [t].filter (fun x => decide (m - x ∈ st)) = [] := by
            rw [List.filter_cons_of_neg (by rw [decide_eq_false hin]; exact Bool.false_ne_true)]; rfl
          rw [e, List.append_nil]
          exact hD2
      · obtain ⟨hD2, sj⟩ := h
        rw [List.length_map, List.take_length] at hD2
        obtain ⟨st2, est2⟩ : ∃ st2, st2 = st.filter (fun x => decide (m - x ∈ st)) := ⟨_, rfl⟩
        rw [← est2] at hD2
        have cy : Cy m st2 := by
          rw [est2]
          refine ⟨List.Pairwise.filter _ snd, fun s hs => sbd s (List.mem_filter.mp hs).1, fun s hs => ?_, ?_, ?_⟩
          · obtain ⟨h1, h2⟩ := List.mem_filter.mp hs
            have h3 := of_decide_eq_true h2
            have := sbd s h1
            refine List.mem_filter.mpr ⟨h3, decide_eq_true ?_⟩
            have e : m - (m - s) = s := by omega
            rw [e]; exact h1
          · exact List.mem_filter.mpr ⟨in1, decide_eq_true inm⟩
          · exact Nat.le_trans (List.length_filter_le _ _) sl4
        have dw4 : Dw K sa ns a H Hj := (dwc.sm sm3).sm sj
        have nHD2 : H D2 = none := (dwc.sm sm3).sx.no D2 nD2
        -- mixed = []
        refine ⟨Nat.zero_le _, fun ml nml => ?_⟩
        have nHm : H ml = none := dw4.sx.no ml nml
        have n2m : D2 ≠ ml := fun z => by rw [← z, hD2] at nml; cases nml
        refine shuffle (i := 4) (j := 6) rfl rfl rfl rw0 (dw4.add nml) ((Sm.new nml).at_ D2 _ rfl hD2) upd_same nHD2 nHm n2m (by rw [List.length_map]; have := cy.l4; omega) (fun H' _ v hv => ?_) fun H5 ys dw5 _ hm5 pm => ?_
        · obtain ⟨i, _, rfl⟩ := List.mem_map.mp hv
          exact ⟨_, .int _, (shp_int _).le (by omega)⟩
        obtain ⟨mx, rfl⟩ : ∃ mx : List Nat, ys = mx.map nI := perm_nI pm
        have cyx : Cy m mx := cy.perm (perm_nI2 pm)
        have hml := cyx.l4
        have okW := cay_ok m2 m7 cyx
        -- rooms = []
        refine ⟨Nat.zero_le _, fun rl nrl => ?_⟩
        have nHr : H rl = none := dw5.sx.no rl nrl
        have s6 : Sm H5 (upd H5 rl (.lst [])) := Sm.new nrl
        refine ⟨_, rfl, _, rfl, by omega, by omega, for_rg (n := m) (fun r σ6 H6 => ∃ (rv : List V) (x2 x5 x8 x9 x10 : Option V), σ6 = [some (.ref a), some (nI m), x2, some (.ref D), some (.ref D2), x5, some (.ref ml), some (.ref rl), x8, x9, x10] ∧ H6 rl = some (.lst rv) ∧ Paired (IsPs H6) rv ((cayW m mx).take r) ∧ Sm H5 H6)
          ⟨[], _, _, _, _, _, rfl, upd_same, by rw [List.take_zero]; exact .nil, s6⟩ (fun r σ6 H6 hr6 h => ?_) (fun σ6 H6 h => ?_)⟩
        · obtain ⟨rv, x2, x5, x8, x9, x10, rfl, hr6', pr6, sm6⟩ := h
          refine ⟨Nat.zero_le _, fun dl ndl => ?_⟩
          have s7 : Sm H6 (upd H6 dl (.lst [])) := Sm.new ndl
          have hm6 := sm6.at_ ml _ rfl hm5
          refine ⟨_, rfl, ml, rfl, ⟨_, SqL.of (s7.at_ ml _ rfl hm6)⟩, for_list (xs := mx.map nI) (fun j σ7 H7 => ∃ (qv : List V) (x2 x10 : Option V), σ7 = [some (.ref a), some (nI m), x2, some (.ref D), some (.ref D2), x5, some (.ref ml), some (.ref rl), some (nI r), some (.ref dl), x10] ∧ H7 dl = some (.lst qv) ∧ Paired (IsP H7) qv ((mx.take j).map fun s => (stp m r s, mx.idxOf (m - s))) ∧ Sm H6 H7)
            ⟨[], _, _, rfl, upd_same, .nil, s7⟩ (fun j σ7 H7 _ h => by obtain ⟨_, _, _, _, _, _, h⟩ := h; exact SqL.of (h.at_ ml _ rfl hm6)) (fun j x σ7 H7 hx h => ?_) (fun σ7 H7 h => ?_)⟩
          · obtain ⟨qv, x2, x10, rfl, hd7, pq7, sm7⟩ := h
            rw [List.getElem?_map] at hx
            obtain ⟨t, ht, hx2⟩ : ∃ t, mx[j]? = some t ∧ x = nI t := by
              cases e : mx[j]? with
              | none => rw [e] at hx; cases hx
              | some d => rw [e] at hx; exact ⟨d, rfl, (Option.some.inj hx).symm⟩
            subst hx2
            have htx := mem_of_get ht
            obtain ⟨ht1, htm⟩ := cyx.bd t htx
            have hj := lt_of_get ht
            have hcl := cyx.cl t htx
            have hm7 := sm7.at_ ml _ rfl hm6
            have hql := pq7.length
            rw [List.length_map, List.length_take] at hql
            have esub : V.int ((m : Int) - (t : Int)) = nI (m - t) := nI_sub (by omega)
            refine ⟨_, rfl, _, rfl, _, _, rfl, rfl, _, rfl, _, rfl, _, _, rfl, rfl, _, rfl, _, _, rfl, rfl, _, rfl, ifB (fun hge => ?_) (fun hlt => ?_)⟩
            · have hge2 := of_decide_eq_true hge
              refine ⟨_, rfl, _, _, rfl, rfl, ?_⟩
              obtain ⟨vth, hv⟩ : ∃ vth, vth = V.int ((r : Int) + (t : Int) - (m : Int)) := ⟨_, rfl⟩
              have hvth : vth = nI (stp m r t) := by
                rw [hv]
                unfold stp
                rw [if_pos (by omega)]
                exact congrArg V.int (by omega)
              show gName 10 (V.int ((r : Int) + (t : Int) - (m : Int))) _ _ _
              rw [← hv]
              clear hv
              subst hvth
              refine ⟨_, rfl, .inl ⟨rfl, _, SqL.of hd7⟩, _, rfl, _, rfl, .inl ⟨rfl, _, SqL.of hm7⟩, _, rfl, _, rfl, _, _, rfl, rfl, ml, mx.map nI, .int ((m : Int) - (t : Int)), mx.idxOf (m - t), nI (m - t), rfl, rfl, SqL.of hm7, rfl, flat_n mx, ?_, ?_, ?_, by show 2 ≤ sizeLine; decide, fun p np => ?_⟩
              · rw [List.getElem?_map, idxOf_get hcl]; rfl
              · rw [esub, eqV_n, decide_eq_true rfl]
              · intro k z' hk hz'
                rw [List.getElem?_map] at hz'
                have hix := List.idxOf_lt_length_of_mem hcl
                have hkl : k < mx.length := by omega
                rw [List.getElem?_eq_getElem hkl] at hz'
                have e := Option.some.inj hz'
                rw [← e, esub, eqV_n]
                refine decide_eq_false fun z => ?_
                have z2 := List.not_of_lt_findIdx (p := (· == (m - t))) (xs := mx) (i := k) hk
                rw [z] at z2
                simp at z2
              · have hd8 := (Sm.new (o := .tup [nI (stp m r t), nI (mx.idxOf (m - t))]) np).at_ dl _ rfl hd7
                refine ⟨dl, qv, _, rfl, rfl, hd8, small1000 (by omega), qv ++ [.ref p], _, _, rfl, upd_same, ?_, (sm7.add np).mut ndl⟩
                have tk : Tk H7 (upd (upd H7 p (.tup [nI (stp m r t), nI (mx.idxOf (m - t))])) dl (.lst (qv ++ [.ref p]))) := (Tk.new np).trans (Tk.lst hd8)
                rw [List.take_add_one, ht, List.map_append]
                exact PSnoc (L2.Paired.mapP pq7 fun _ _ z => z.mono tk) ⟨p, rfl, Tk.lst hd8 _ _ upd_same⟩
            · have hlt2 := of_decide_eq_false hlt
              refine ⟨_, _, rfl, rfl, ?_⟩
              obtain ⟨vth, hv⟩ : ∃ vth, vth = V.int ((r : Int) + (t : Int) - 0) := ⟨_, rfl⟩
              have hvth : vth = nI (stp m r t) := by
                rw [hv]
                unfold stp
                rw [if_neg (by omega)]
                exact congrArg V.int (by omega)
              show gName 10 (V.int ((r : Int) + (t : Int) - 0)) _ _ _
              rw [← hv]
              clear hv
              subst hvth
              refine ⟨_, rfl, .inl ⟨rfl, _, SqL.of hd7⟩, _, rfl, _, rfl, .inl ⟨rfl, _, SqL.of hm7⟩, _, rfl, _, rfl, _, _, rfl, rfl, ml, mx.map nI, .int ((m : Int) - (t : Int)), mx.idxOf (m - t), nI (m - t), rfl, rfl, SqL.of hm7, rfl, flat_n mx, ?_, ?_, ?_, by show 2 ≤ sizeLine; decide, fun p np => ?_⟩
              · rw [List.getElem?_map, idxOf_get hcl]; rfl
              · rw [esub, eqV_n, decide_eq_true rfl]
              · intro k z' hk hz'
                rw [List.getElem?_map] at hz'
                have hix := List.idxOf_lt_length_of_mem hcl
                have hkl : k < mx.length := by omega
                rw [List.getElem?_eq_getElem hkl] at hz'
                have e := Option.some.inj hz'
                rw [← e, esub, eqV_n]
                refine decide_eq_false fun z => ?_
                have z2 := List.not_of_lt_findIdx (p := (· == (m - t))) (xs := mx) (i := k) hk
                rw [z] at z2
                simp at z2
              · have hd8 := (Sm.new (o := .tup [nI (stp m r t), nI (mx.idxOf (m - t))]) np).at_ dl _ rfl hd7
                refine ⟨dl, qv, _, rfl, rfl, hd8, small1000 (by omega), qv ++ [.ref p], _, _, rfl, upd_same, ?_, (sm7.add np).mut ndl⟩
                have tk : Tk H7 (upd (upd H7 p (.tup [nI (stp m r t), nI (mx.idxOf (m - t))])) dl (.lst (qv ++ [.ref p]))) := (Tk.new np).trans (Tk.lst hd8)
                rw [List.take_add_one, ht, List.map_append]
                exact PSnoc (L2.Paired.mapP pq7 fun _ _ z => z.mono tk) ⟨p, rfl, Tk.lst hd8 _ _ upd_same⟩
          · obtain ⟨qv, x2, x10, rfl, hd7, pq7, sm7⟩ := h
            rw [List.length_map, List.take_length] at pq7
            have hrl := pr6.length
            rw [List.length_take] at hrl
            refine ⟨_, rfl, .inl ⟨rfl, _, SqL.of (sm7.at_ rl _ rfl hr6')⟩, _, rfl, .inl ⟨dl, qv, rfl, SqL.of hd7, fun tq ntq => ?_⟩⟩
            have s8 : Sm H6 (upd H7 tq (.tup qv)) := sm7.add ntq
            have hr8 := s8.at_ rl _ rfl hr6'
            refine ⟨rl, rv, _, rfl, rfl, hr8, small1000 (by omega), ?_⟩
            have t9 : Tk (upd H7 tq (.tup qv)) (upd (upd H7 tq (.tup qv)) rl (.lst (rv ++ [.ref tq]))) := Tk.lst hr8
            have hcw : (cayW m mx)[r]? = some (mx.map fun s => (stp m r s, mx.idxOf (m - s))) := by
              unfold cayW
              rw [List.getElem?_map, List.getElem?_range hr6]; rfl
            refine ⟨rv ++ [.ref tq], _, _, _, _, _, rfl, upd_same, ?_, (sm6.trans s8).mut nrl⟩
            rw [List.take_add_one, hcw]
            exact PSnoc (L2.Paired.mapP pr6 fun _ _ z => z.mono (s8.tk.trans t9)) ⟨tq, qv, rfl, t9 _ _ upd_same, L2.Paired.mapP pq7 fun _ _ z => z.mono ((Tk.new ntq).trans t9)⟩
        · obtain ⟨rv, x2, x5, x8, x9, x10, rfl, hr6', pr6, sm6⟩ := h
          have hcl : (cayW m mx).length = m := by unfold cayW; rw [List.length_map, List.length_range]
          rw [List.take_of_length_le (by omega)] at pr6
          refine ⟨_, rfl, .inl ⟨rl, rv, rfl, SqL.of hr6', fun tq ntq => ?_⟩⟩
          exact q _ tq _ ((dw5.sm sm6).add ntq) ⟨tq, rv, rfl, upd_same, L2.Paired.mapP pr6 fun _ _ z => z.mono (Tk.new ntq)⟩ okW
end
end K2
namespace K2
open PySem PySem.Spec PyProof.Rows L2
abbrev st_law_schreier : Stmt := topS 47
theorem sc_law_schreier : FnScope ["_law_row", "_law_many", "_law_doors", "_law_turn", "_law_mixed_here", "_law_there", "_law_place", "_law_back", "_law_cut", "_law_start", "_law_end", "_law_after", "_law_room", "_law_web_here", "_law_joined", "_law_mate"] ["_law_row"] (C8.fnScope st_law_schreier) := C8.fnScope_by (by decide +kernel)
-- slots: _law_row=0 _law_many=1 _law_doors=2 _law_turn=3 _law_mixed_here=4 _law_there=5 _law_place=6 _law_back=7 _law_cut=8 _law_start=9 _law_end=10 _law_after=11 _law_room=12 _law_web_here=13 _law_joined=14 _law_mate=15

/-- a door number: a list of rooms, its mate -/
def IsD (N : Addr → Prop) (H : Hp) (v : V) (d : List Nat × Nat) : Prop := ∃ t tl, v = .ref t ∧ H t = some (.tup [.ref tl, nI d.2]) ∧ H tl = some (.lst (d.1.map nI)) ∧ N tl
section
variable {N M : Addr → Prop} {H H' : Hp} {v : V} {d : List Nat × Nat}
theorem IsD.sm (h : IsD N H v d) (e : Sm H H') : IsD N H' v d := let ⟨t, tl, h1, h2, h3, h4⟩ := h; ⟨t, tl, h1, e.tk _ _ h2, e.at_ _ _ rfl h3, h4⟩
theorem IsD.imp (h : IsD N H v d) (e : ∀ x, H x ≠ none → N x → M x) : IsD M H v d := let ⟨t, tl, h1, h2, h3, h4⟩ := h; ⟨t, tl, h1, h2, h3, e tl (by rw [h3]; intro z; cases z) h4⟩
theorem IsD.upd {p : Addr} {xs : List V} {o : HO} (h : IsD N H v d) (hp : H p = some (.lst xs)) (n : ¬ N p) : IsD N (upd H p o) v d := by
  obtain ⟨t, tl, h1, h2, h3, h4⟩ := h
  exact ⟨t, tl, h1, Tk.lst hp _ _ h2, by rw [upd_ne (fun z => n (by rw [← z]; exact h4))]; exact h3, h4⟩
theorem IsD.dw {K : PySem.W.Frag} {sa a : Addr} {ns : List Int} (h : IsD N H v d) (r : Rw K sa ns a H) (e : Dw K sa ns a H H') (n : ¬ N a) : IsD N H' v d := by
  obtain ⟨t, tl, h1, h2, h3, h4⟩ := h
  exact ⟨t, tl, h1, e.tk r _ _ h2, e.lst h3 (fun z => n (by rw [← z]; exact h4)) rfl, h4⟩
end
theorem fdiv2 (p : Nat) : ((p : Int).fdiv 2) = ((p / 2 : Nat) : Int) := by
  rw [Int.fdiv_eq_ediv_of_nonneg _ (by omega), Int.natCast_ediv]; rfl
theorem fdiv2m (p : Nat) : V.int ((p : Int).fdiv 2 * 2) = nI (p / 2 * 2) := by rw [fdiv2]; exact congrArg V.int (by omega)
/-- the pairs (0 1) (2 3) .. -/
def g1 (p : Nat) : Nat := if p / 2 * 2 = p then p + 1 else p - 1
theorem g1_ok {n p : Nat} (hn : n / 2 * 2 = n) (hp : p < n) : g1 p < n ∧ g1 p ≠ p ∧ g1 (g1 p) = p := by
  unfold g1
  by_cases h : p / 2 * 2 = p
  · rw [if_pos h, if_neg (by omega)]
    omega
  · rw [if_neg h, if_pos (by omega)]
    omega
/-- two rounds: below c, from c on -/
def g2 (n c p : Nat) : Nat := if p < c then (if p + 1 < c then p + 1 else 0) else if p + 1 < n then p + 1 else c
def g2' (n c p : Nat) : Nat := if p < c then (if p = 0 then c - 1 else p - 1) else if p = c then n - 1 else p - 1
theorem g2_ok {n c p : Nat} (hc : (c = 0 ∧ 2 < n) ∨ (c = 2 ∧ 3 < n)) (hp : p < n) : g2 n c p < n ∧ g2 n c p ≠ p ∧ g2' n c p < n ∧ g2 n c (g2' n c p) = p := by
  unfold g2 g2'
  rcases hc with ⟨rfl, h⟩ | ⟨rfl, h⟩
  · refine ⟨?_, ?_, ?_, ?_⟩ <;> (repeat' split) <;> omega
  · refine ⟨?_, ?_, ?_, ?_⟩ <;> (repeat' split) <;> omega
theorem g2_inj {n c : Nat} (hc : (c = 0 ∧ 2 < n) ∨ (c = 2 ∧ 3 < n)) (p q : Nat) (hp : p < n) (hq : q < n) (e : g2 n c p = g2 n c q) : p = q := by
  unfold g2 at e
  rcases hc with ⟨rfl, h⟩ | ⟨rfl, h⟩ <;> (revert e; (repeat' split) <;> omega)
theorem cond1 {K : PySem.W.Frag} {σ : L2.St} {H : Hp} {a sa dl : Addr} {ns : List Int} {m : Nat} {tvs : List V} (h0 : σ[0]? = some (some (.ref a))) (h1 : σ[1]? = some (some (nI m))) (h2 : σ[2]? = some (some (.ref dl))) (r : Rw K sa ns a H) (hd : H dl = some (.lst tvs)) (nda : dl ≠ a) (Kc : Bool → Hp → Prop)
    (k : ∀ b H', Dw K sa ns a H H' → (b = true → m / 2 * 2 = m ∧ tvs.length < 4) → Kc b H') :
    tAnd (tTest (tOp rEq (tOp (rI CMul fun i j => V.int (i * j)) (tOp (rI CDivN fun i j => V.int (i.fdiv j)) (tVar 1) (tC (.int 2))) (tC (.int 2))) (tVar 1))) (tAnd (tTest (tOp rEq (tCall (spTaken K) [] C8.E0 (tCons (tVar 0) (tCons (tC (.int 2)) tNil))) (tC (.int 0)))) (tTest (tOp (rI0 fun i j => V.bl (decide (i < j))) (tCB (rLenQ K) (tCons (tVar 2) tNil)) (tC (.int 4))))) σ H Kc := by
  refine ⟨_, h1, _, 2, rfl, rfl, ⟨by show (2 : Int) ≠ 0; decide, by decide⟩, _, 2, rfl, rfl, .inr ⟨by omega, by omega⟩, _, h1, rfl, _, rfl, ?_⟩
  by_cases he : m / 2 * 2 = m
  · refine ifT (show decide (V.int ((m : Int).fdiv 2 * 2) = nI m) = true by rw [fdiv2m]; exact eq_yes he) ?_
    refine ⟨_, h0, a, sa, ns, 2, rfl, by omega, by omega, r, fun H1 v dw hv => ⟨rfl, _, rfl, ?_⟩⟩
    by_cases hv0 : v = 0
    · refine ifT (eq_yes (a := v) (b := 0) hv0) ⟨_, h2, dl, tvs, rfl, .inl (SqL.of (dw.lst hd nda rfl)), _, 4, rfl, rfl, _, rfl, k _ H1 dw fun e => ⟨he, ?_⟩⟩
      have := of_decide_eq_true e
      omega
    · exact ifF (eq_no (a := v) (b := 0) hv0) (k _ H1 dw fun e => (nomatch e))
  · exact ifF (show decide (V.int ((m : Int).fdiv 2 * 2) = nI m) = false by rw [fdiv2m]; exact eq_no he) (k _ H (Dw.refl r) fun e => (nomatch e))
theorem cond2 {K : PySem.W.Frag} {σ : L2.St} {H : Hp} {dl : Addr} {m : Nat} {tvs : List V} (h1 : σ[1]? = some (some (nI m))) (h2 : σ[2]? = some (some (.ref dl))) (hd : H dl = some (.lst tvs)) (Kc : Bool → Hp → Prop) (k : ∀ b, (b = true → 2 < m ∧ tvs.length < 3) → Kc b H) :
    tAnd (tTest (tOp (rI0 fun i j => V.bl (decide (j < i))) (tVar 1) (tC (.int 2)))) (tTest (tOp (rI0 fun i j => V.bl (decide (i < j))) (tCB (rLenQ K) (tCons (tVar 2) tNil)) (tC (.int 3)))) σ H Kc := by
  refine ⟨_, h1, _, 2, rfl, rfl, _, rfl, ifB (fun hg => ?_) (fun _ => k _ fun e => (nomatch e))⟩
  refine ⟨_, h2, dl, tvs, rfl, .inl (SqL.of hd), _, 3, rfl, rfl, _, rfl, k _ fun e => ?_⟩
  have z1 := of_decide_eq_true hg
  have z2 := of_decide_eq_true e
  omega
theorem cond3 {K : PySem.W.Frag} {σ : L2.St} {H : Hp} {a sa : Addr} {ns : List Int} {m : Nat} {Q : VK} (h0 : σ[0]? = some (some (.ref a))) (h1 : σ[1]? = some (some (nI m))) (r : Rw K sa ns a H) (hm : 2 < m) (k : ∀ c H', Dw K sa ns a H H' → ((c = 0 ∧ 2 < m) ∨ (c = 2 ∧ 3 < m)) → Q (nI c) H') :
    tIf (tAnd (tTest (tOp (rI0 fun i j => V.bl (decide (j < i))) (tVar 1) (tC (.int 3)))) (tTest (tOp rEq (tCall (spTaken K) [] C8.E0 (tCons (tVar 0) (tCons (tC (.int 2)) tNil))) (tC (.int 0))))) (tC (.int 2)) (tC (.int 0)) σ H Q := by
  refine ⟨_, h1, _, 3, rfl, rfl, _, rfl, ifB (fun hg => ?_) (fun _ => iteF (k 0 H (Dw.refl r) (.inl ⟨rfl, hm⟩)))⟩
  have z1 := of_decide_eq_true hg
  refine ⟨_, h0, a, sa, ns, 2, rfl, by omega, by omega, r, fun H1 v dw hv => ⟨rfl, _, rfl, ?_⟩⟩
  by_cases hv0 : v = 0
  · exact ifT (eq_yes (a := v) (b := 0) hv0) (k 2 H1 dw (.inr ⟨rfl, by omega⟩))
  · exact ifF (eq_no (a := v) (b := 0) hv0) (k 0 H1 dw (.inl ⟨rfl, hm⟩))
section
variable {P : Program} {w : World} {K : PySem.W.Frag} {mg : Str → Option Value} {base : Heap}
theorem cal_law_schreier {f : Addr} {fd : FuncData} (F : C8.Def K mg "_law_schreier" st_law_schreier f fd) (b : Binds K fd ["_law_row"] []) (G : Glob mg) (c_law_taken : C8.Cal P w K mg base 1 "_law_taken" (spTaken K) []) (c_law_mixed : C8.Cal P w K mg base 2 "_law_mixed" (spMixed K) []) (c_law_cayley : C8.Cal P w K mg base 3 "_law_cayley" (spGen K) []) : C8.Cal P w K mg base 4 "_law_schreier" (spGen K) [] := by
  refine C8.cal0 (k := 3) F b .nil sc_law_schreier (fun vs H Q E h => ?_) (fun cdv A outer s H vs Q E hr h => ?_)
  · obtain ⟨_, _, _, rfl, _⟩ := h
    rfl
  · obtain ⟨a, sa, ns, rfl, rw0, q⟩ := h
    refine ⟨_, (pss_cons (ps_asg (pe_tup (pa_cons (pe_op op_add pe_int (C8.pe_c c_law_taken hr (by decide) (by rfl) (pa_cons (pv 0) (pa_cons pe_int pa_nil)))) (pa_cons (pe_lst pa_nil) pa_nil))) (pg_tup rfl (pgs_cons (pg_name (i := 1) sc_law_schreier.nd rfl (.inl rfl)) (pgs_cons (pg_name (i := 2) sc_law_schreier.nd rfl (.inr rfl)) pgs_nil))))
    (pss_cons (ps_for PassesOwn.never rfl (pi_range1 (by rfl) G.range (pa_cons (pe_op op_add pe_int (C8.pe_c c_law_taken hr (by decide) (by rfl) (pa_cons (pv 0) (pa_cons pe_int pa_nil)))) pa_nil)) (pg_name (i := 3) sc_law_schreier.nd rfl (.inl rfl)) 
      (pss_cons (ps_set (i := 4) sc_law_schreier.nd rfl (.inl rfl) (C8.pe_c c_law_mixed hr (by decide) (by rfl) (pa_cons (pv 0) (pa_cons (pv 1) pa_nil))))
      (pss_one (ps_if (PW.pt (pw_and (pt_cmpR op_eq (pe_op op_mul (pe_op op_fdivN (pv 1) pe_int) pe_int) (pv 1) (nomark _)) (pw_and (pt_cmpR op_eq (C8.pe_c c_law_taken hr (by decide) (by rfl) (pa_cons (pv 0) (pa_cons pe_int pa_nil))) pe_int (nomark _)) (pw_and1 (pt_cmpR op_lt (pe_callB (id := "len") call_len_seq (by rfl) G.len (by decide +kernel) (pa_cons (pv 2) pa_nil)) pe_int (nomark _)))))) 
        (pss_cons (ps_set (i := 5) sc_law_schreier.nd rfl (.inl rfl) (pe_op op_rep (pe_lst (pa_cons pe_int pa_nil)) (pv 1)))
        (pss_cons (ps_for PassesOwn.never rfl (pi_range1 (by rfl) G.range (pa_cons (pv 1) pa_nil)) (pg_name (i := 6) sc_law_schreier.nd rfl (.inl rfl)) 
          (pss_one (ps_asg (pe_ifExp (pt_cmpR op_eq (pe_op op_mul (pe_op op_fdivN (pv 6) pe_int) pe_int) (pv 6) (nomark _)) (pe_ix ix_list (pv 4) (pe_op op_add (pv 6) pe_int) (fun _ _ => rfl)) (pe_ix ix_list (pv 4) (pe_op op_sub (pv 6) pe_int) (fun _ _ => rfl))) (pg_sub (pv 5) (pe_ix ix_list (pv 4) (pv 6) (fun _ _ => rfl)) set_list))))
        (pss_one (ps_expr (pe_bm PySem.F.plainAttrs_list PySem.F.slot_list_append PySem.F.type_list_append mt_append (pv 2) (pa_cons (pe_tup (pa_cons (pv 5) (pa_cons (pe_callB (id := "len") call_len_seq (by rfl) G.len (by decide +kernel) (pa_cons (pv 2) pa_nil)) pa_nil))) pa_nil)))))) 
        (pss_one (ps_if (PW.pt (pw_and (pt_cmpR op_gt (pv 1) pe_int (nomark _)) (pw_and1 (pt_cmpR op_lt (pe_callB (id := "len") call_len_seq (by rfl) G.len (by decide +kernel) (pa_cons (pv 2) pa_nil)) pe_int (nomark _))))) 
          (pss_cons (ps_par (i := 5) (j := 7) (by rfl) sc_law_schreier.nd rfl rfl (by decide) rfl rfl (pa_cons (pe_op op_rep (pe_lst (pa_cons pe_int pa_nil)) (pv 1)) (pa_cons (pe_op op_rep (pe_lst (pa_cons pe_int pa_nil)) (pv 1)) pa_nil)) (by rfl))
          (pss_cons (ps_set (i := 8) sc_law_schreier.nd rfl (.inl rfl) (pe_ifExp (PW.pt (pw_and (pt_cmpR op_gt (pv 1) pe_int (nomark _)) (pw_and1 (pt_cmpR op_eq (C8.pe_c c_law_taken hr (by decide) (by rfl) (pa_cons (pv 0) (pa_cons pe_int pa_nil))) pe_int (nomark _))))) pe_int pe_int))
          (pss_cons (ps_for PassesOwn.never rfl (pi_list (pe_lst (pa_cons (pe_tup (pa_cons pe_int (pa_cons (pv 8) pa_nil))) (pa_cons (pe_tup (pa_cons (pv 8) (pa_cons (pv 1) pa_nil))) pa_nil)))) (pg_tup rfl (pgs_cons (pg_name (i := 9) sc_law_schreier.nd rfl (.inl rfl)) (pgs_cons (pg_name (i := 10) sc_law_schreier.nd rfl (.inl rfl)) pgs_nil))) 
            (pss_one (ps_for PassesOwn.never rfl (pi_range2 (by rfl) G.range (pa_cons (pv 9) (pa_cons (pv 10) pa_nil))) (pg_name (i := 6) sc_law_schreier.nd rfl (.inl rfl)) 
              (pss_cons (ps_set (i := 11) sc_law_schreier.nd rfl (.inl rfl) (pe_ifExp (pt_cmpR op_lt (pe_op op_add (pv 6) pe_int) (pv 10) (nomark _)) (pe_op op_add (pv 6) pe_int) (pv 9)))
              (pss_one (ps_asg (pe_tup (pa_cons (pe_ix ix_list (pv 4) (pv 11) (fun _ _ => rfl)) (pa_cons (pe_ix ix_list (pv 4) (pv 6) (fun _ _ => rfl)) pa_nil))) (pg_tup rfl (pgs_cons (pg_sub (pv 5) (pe_ix ix_list (pv 4) (pv 6) (fun _ _ => rfl)) set_list) (pgs_cons (pg_sub (pv 7) (pe_ix ix_list (pv 4) (pv 11) (fun _ _ => rfl)) set_list) pgs_nil)))))))))
          (pss_one (ps_set (i := 2) sc_law_schreier.nd rfl (.inr rfl) (pe_op op_cat (pv 2) (pe_lst (pa_cons (pe_tup (pa_cons (pv 5) (pa_cons (pe_op op_add (pe_callB (id := "len") call_len_seq (by rfl) G.len (by decide +kernel) (pa_cons (pv 2) pa_nil)) pe_int) pa_nil))) (pa_cons (pe_tup (pa_cons (pv 7) (pa_cons (pe_callB (id := "len") call_len_seq (by rfl) G.len (by decide +kernel) (pa_cons (pv 2) pa_nil)) pa_nil))) pa_nil))))))))) pss_nil))))))
    (pss_cons (ps_set (i := 13) sc_law_schreier.nd rfl (.inl rfl) (pe_tupleOf (by rfl) G.tuple (pe_lc (own := [("_law_room", 12)]) (g := gName 12) (tt := tYes) rfl sc_law_schreier.nd (pi_range1 (by rfl) G.range (pa_cons (pv 1) pa_nil)) (blkOk_by (own := [("_law_room", 12)]) (N := ["_law_row", "_law_many", "_law_doors", "_law_turn", "_law_mixed_here", "_law_there", "_law_place", "_law_back", "_law_cut", "_law_start", "_law_end", "_law_after", "_law_room", "_law_web_here", "_law_joined", "_law_mate"]) (sc := C8.fnScope st_law_schreier) (by decide +kernel)) (fun _ _ _ _ _ => (pg_name (i := 12) sc_law_schreier.nd rfl (.inr rfl))) (fun _ _ _ _ _ => pts_nil) (fun _ _ _ _ _ => by exact (pe_tupleOfK (K := K) (by rfl) (by rfl) G.tuple (pe_lc (own := [("_law_there", 5), ("_law_mate", 15)]) (g := gTup K 2 (gCons (gName 5) (gCons (gName 15) gNil))) (tt := tYes) rfl sc_law_schreier.nd (pi_listK (K := K) (by rfl) (pv 2)) (blkOk_by (own := [("_law_there", 5), ("_law_mate", 15)]) (N := ["_law_row", "_law_many", "_law_doors", "_law_turn", "_law_mixed_here", "_law_there", "_law_place", "_law_back", "_law_cut", "_law_start", "_law_end", "_law_after", "_law_room", "_law_web_here", "_law_joined", "_law_mate"]) (by rfl)) (fun _ _ _ _ _ => (pg_tup rfl (pgs_cons (pg_name (i := 5) sc_law_schreier.nd rfl (.inl rfl)) (pgs_cons (pg_name (i := 15) sc_law_schreier.nd rfl (.inl rfl)) pgs_nil)))) (fun _ _ _ _ _ => pts_nil) (fun _ _ _ _ _ => (pe_tup (pa_cons (pe_ix (ix_listK (K := K) (by rfl)) (pv 5) (pv 12) (fun _ _ => rfl)) (pa_cons (pv 15) pa_nil))))))))))
    (pss_cons (ps_set (i := 14) sc_law_schreier.nd rfl (.inl rfl) (pe_lst (pa_cons pe_int pa_nil)))
    (pss_cons (ps_for PassesOwn.never rfl (pi_range1 (by rfl) G.range (pa_cons (pv 1) pa_nil)) (pg_name (i := 3) sc_law_schreier.nd rfl (.inl rfl)) 
      (pss_one (ps_for PassesOwn.never rfl (pi_list (pe_callTy (T := "list") call_list_of (by rfl) G.list (by decide +kernel) (pa_cons (pv 14) pa_nil))) (pg_name (i := 12) sc_law_schreier.nd rfl (.inl rfl)) 
        (pss_one (ps_set (i := 14) sc_law_schreier.nd rfl (.inl rfl) (pe_callB (id := "sorted") (cr_sortedSet rfl) (by rfl) G.sorted (by decide +kernel) (pa_cons (pe_callTy (T := "set") (cr_setOfI rfl) (by rfl) G.set (by decide +kernel) (pa_cons (pe_op op_cat (pv 14) (pe_lc (own := [("_law_there", 5), ("_law_mate", 15)]) (g := gTup K 2 (gCons (gName 5) (gCons (gName 15) gNil))) (tt := tYes) rfl sc_law_schreier.nd (pi_tup (pe_ix ix_tup (pv 13) (pv 12) (fun _ _ => rfl))) (blkOk_by (own := [("_law_there", 5), ("_law_mate", 15)]) (N := ["_law_row", "_law_many", "_law_doors", "_law_turn", "_law_mixed_here", "_law_there", "_law_place", "_law_back", "_law_cut", "_law_start", "_law_end", "_law_after", "_law_room", "_law_web_here", "_law_joined", "_law_mate"]) (sc := C8.fnScope st_law_schreier) (by decide +kernel)) (fun _ _ _ _ _ => (pg_tup rfl (pgs_cons (pg_name (i := 5) sc_law_schreier.nd rfl (.inl rfl)) (pgs_cons (pg_name (i := 15) sc_law_schreier.nd rfl (.inl rfl)) pgs_nil)))) (fun _ _ _ _ _ => pts_nil) (fun _ _ _ _ _ => (pv 5)))) pa_nil)) pa_nil)))))))
    (pss_one (ps_ret (pe_ifExp (pt_cmpR op_eq (pe_callB (id := "len") call_len_seq (by rfl) G.len (by decide +kernel) (pa_cons (pv 14) pa_nil)) (pv 1) (nomark _)) (pv 13) (C8.pe_c c_law_cayley hr (by decide) (by rfl) (pa_cons (pv 0) pa_nil)))))))))), ?_⟩
    refine ⟨_, rfl, a, sa, ns, 5, rfl, by omega, by omega, rw0, fun H1 v dw1 hv => ⟨2, _, rfl, rfl, Nat.zero_le _, fun dl0 ndl0 => ⟨by show 2 ≤ sizeLine; decide, fun t0 nt0 => ⟨t0, _, rfl, SqT.of upd_same, rfl, _, _, rfl, _, _, rfl, rfl, ?_⟩⟩⟩⟩
    obtain ⟨m, hm⟩ : ∃ m, m = 2 + v := ⟨_, rfl⟩
    have em : V.int ((2 : Int) + (v : Int)) = nI m := by rw [hm]; exact nI_add 2 v
    show tSeq _ _ _ (List.set (List.set _ 1 (some (V.int ((2 : Int) + (v : Int))))) 2 _) _
    rw [em]
    have m2 : 2 ≤ m := by omega
    have m6 : m ≤ 6 := by omega
    have nHd0 : H dl0 = none := dw1.sx.no dl0 ndl0
    have dw2 : Dw K sa ns a H (upd (upd H1 dl0 (.lst [])) t0 (.tup [.int ((2 : Int) + (v : Int)), .ref dl0])) := (dw1.add ndl0).add nt0
    have hd2 := (Sm.new (o := .tup [.int ((2 : Int) + (v : Int)), .ref dl0]) nt0).at_ dl0 _ rfl (upd_same (H := H1) (o := .lst []))
    generalize upd (upd H1 dl0 (.lst [])) t0 (.tup [.int ((2 : Int) + (v : Int)), .ref dl0]) = H2 at dw2 hd2 ⊢
    have na : ∀ l, H l = none → l ≠ a := fun l hl => (rw0.nd hl).1
    have nna : ¬ (fun x => H x = none) a := fun z => na a z rfl
    have erep : (List.replicate ((m : Nat) : Int).toNat [V.int 0]).flatten = (List.replicate m 0).map nI := rep_nI m
    have mk0 : ∀ (Hq : Hp) (l1 : Addr) (Qz : VK), Hq l1 = some (.lst [.int 0]) → (∀ th, Hq th = none → Qz (.ref th) (upd Hq th (.lst ((List.replicate m 0).map nI)))) → rRep (.ref l1) (nI m) Hq Qz := fun Hq l1 Qz h z => by
      refine ⟨l1, _, [.int 0], rfl, rfl, h, by omega, by omega, by show 1 * m ≤ sizeLine; rw [sizeLine_eq]; omega, fun th nth => ?_⟩
      rw [erep]
      exact z th nth
    refine ⟨_, rfl, a, sa, ns, 3, rfl, by omega, by omega, dw2.rw_, fun H3 u dw3 hu => ⟨_, _, rfl, rfl, _, rfl, by omega, by omega, for_rg (n := ((1 : Int) + (u : Int)).toNat) (fun i σ4 H4 => ∃ (dl : Addr) (tvs : List V) (DD : List (List Nat × Nat)) (x3 x4 x5 x6 x7 x8 x9 x10 x11 x12 x13 x14 x15 : Option V), σ4 = [some (.ref a), some (nI m), some (.ref dl), x3, x4, x5, x6, x7, x8, x9, x10, x11, x12, x13, x14, x15] ∧ H4 dl = some (.lst tvs) ∧ Paired (IsD (fun x => H x = none ∧ x ≠ dl) H4) tvs DD ∧ Sc m DD ∧ H dl = none ∧ Dw K sa ns a H H4)
      ⟨dl0, [], [], _, _, _, _, _, _, _, _, _, _, _, _, _, rfl, dw3.lst hd2 (na dl0 nHd0) rfl, .nil, Sc.nil, nHd0, dw2.trans dw3⟩ (fun i σ4 H4 hi h => ?_) (fun σ4 H4 h => ?_)⟩⟩
    · obtain ⟨dl, tvs, DD, x3, x4, x5, x6, x7, x8, x9, x10, x11, x12, x13, x14, x15, rfl, hd4, pd4, sc, nHd, dw4⟩ := h
      have nda := na dl nHd
      refine ⟨_, rfl, _, rfl, a, sa, ns, m, rfl, by omega, dw4.rw_, fun H5 ml l dw5 nml hml pml => ?_⟩
      have mx : Mx m l := Mx.of_perm pml
      have hll := mx.len
      have nHm : H ml = none := dw4.sx.no ml nml
      have nma := na ml nHm
      have dw45 := dw4.trans dw5
      have hd5 := dw5.lst hd4 nda rfl
      have hdm : dl ≠ ml := fun z => by rw [← z, hd4] at nml; cases nml
      have pd5 : Paired (IsD (fun x => H x = none ∧ x ≠ dl) H5) tvs DD := L2.Paired.mapP pd4 fun _ _ z => z.dw dw4.rw_ dw5 fun z => na a z.1 rfl
      have pd5' : Paired (IsD (fun x => H x = none ∧ x ≠ dl ∧ x ≠ ml) H5) tvs DD := L2.Paired.mapP pd4 fun _ _ z => IsD.dw (z.imp fun x hx hz => ⟨hz.1, hz.2, fun e => hx (by rw [e]; exact nml)⟩) dw4.rw_ dw5 fun z => na a z.1 rfl
      have hdd := pd5.length
      have l4 := sc.l4
      refine cond1 rfl rfl rfl dw45.rw_ hd5 nda _ fun bo H6 dw6 hb => ?_
      have dw56 := dw45.trans dw6
      have hd6 := dw6.lst hd5 nda rfl
      have hm6 := dw6.lst hml nma rfl
      have pd6 : Paired (IsD (fun x => H x = none ∧ x ≠ dl ∧ x ≠ ml) H6) tvs DD := L2.Paired.mapP pd5' fun _ _ z => z.dw dw45.rw_ dw6 fun z => na a z.1 rfl
      have gl : ∀ p, p < m → (l.map nI)[p]? = some (nI (l.getD p 0)) := fun p hp => get_nI (by omega)
      refine ifB (fun hbt => ?_) (fun hbf => ?_)
      · obtain ⟨hev, hl4⟩ := hb hbt
        -- there = [0] * many
        refine ⟨by show 1 ≤ sizeLine; decide, fun l1 nl1 => ⟨_, rfl, mk0 _ l1 _ upd_same fun th nth => ?_⟩⟩
        obtain ⟨nth6, _⟩ := upd_no nth
        have s7 : Sm H6 (upd (upd H6 l1 (.lst [.int 0])) th (.lst ((List.replicate m 0).map nI))) := (Sm.new nl1).add nth
        have nHth : H th = none := dw56.sx.no th nth6
        refine ⟨_, rfl, _, rfl, by omega, by omega, for_rg (n := m) (fun p σ8 H8 => ∃ (tl : List Nat) (x6 : Option V), σ8 = [some (.ref a), some (nI m), some (.ref dl), some (nI i), some (.ref ml), some (.ref th), x6, x7, x8, x9, x10, x11, x12, x13, x14, x15] ∧ H8 th = some (.lst (tl.map nI)) ∧ Tn m l (fun p => p) g1 (fun q => q < p) tl ∧ Sm H6 H8)
          ⟨List.replicate m 0, _, rfl, upd_same, ⟨List.length_replicate, fun p hp h => absurd h (by omega)⟩, s7⟩ (fun p σ8 H8 hp h => ?_) (fun σ8 H8 h => ?_)⟩
        · obtain ⟨tl, x6, rfl, hth, tn, s8⟩ := h
          have hm8 := s8.at_ ml _ rfl hm6
          obtain ⟨gp1, gp2, gp3⟩ := g1_ok hev hp
          have fin : ∀ (y : Nat), y = g1 p → gSub (tVar 5) (tOp (rIxL K) (tVar 4) (tVar 6)) rSetL (nI (l.getD y 0)) [some (.ref a), some (nI m), some (.ref dl), some (nI i), some (.ref ml), some (.ref th), some (nI p), x7, x8, x9, x10, x11, x12, x13, x14, x15] H8 fun σ9 H9 => ∃ (tl : List Nat) (x6 : Option V), σ9 = [some (.ref a), some (nI m), some (.ref dl), some (nI i), some (.ref ml), some (.ref th), x6, x7, x8, x9, x10, x11, x12, x13, x14, x15] ∧ H9 th = some (.lst (tl.map nI)) ∧ Tn m l (fun p => p) g1 (fun q => q < p + 1) tl ∧ Sm H6 H9 := by
            intro y hy
            subst hy
            refine ⟨_, rfl, _, rfl, _, rfl, r_ixL hm8 (gl p hp) ⟨th, _, _, l.getD p 0, rfl, rfl, hth, ixN_n (by rw [List.length_map, tn.len]; exact mx.lt' hp), ?_⟩⟩
            refine ⟨tl.set (l.getD p 0) (l.getD (g1 p) 0), _, rfl, by rw [upd_same, set_nI], ?_, s8.mut nth6⟩
            have z := Tn.set mx tn (q := p) hp (fun _ h => h) (fun _ _ _ _ h => h)
            exact ⟨z.len, fun q hq hlt => z.at_ q hq (by omega)⟩
          refine ⟨_, rfl, _, 2, rfl, rfl, ⟨by show (2 : Int) ≠ 0; decide, by decide⟩, _, 2, rfl, rfl, .inr ⟨by omega, by omega⟩, _, rfl, rfl, _, rfl, ?_⟩
          by_cases he : p / 2 * 2 = p
          · refine ifT (show decide (V.int ((p : Int).fdiv 2 * 2) = nI p) = true by rw [fdiv2m]; exact eq_yes he) ?_
            have e1 : g1 p = p + 1 := by unfold g1; rw [if_pos he]
            exact ⟨_, rfl, _, rfl, _, 1, rfl, rfl, r_ixL (i := p + 1) hm8 (gl (p + 1) (by omega)) (fin (p + 1) e1.symm)⟩
          · refine ifF (show decide (V.int ((p : Int).fdiv 2 * 2) = nI p) = false by rw [fdiv2m]; exact eq_no he) ?_
            have e1 : g1 p = p - 1 := by unfold g1; rw [if_neg he]
            have e2 : ((p : Int) - 1) = ((p - 1 : Nat) : Int) := by omega
            refine ⟨_, rfl, _, rfl, _, 1, rfl, rfl, ?_⟩
            show rIxL K (.ref ml) (V.int ((p : Int) - 1)) H8 _
            rw [e2]
            exact r_ixL (i := p - 1) hm8 (gl (p - 1) (by omega)) (fin (p - 1) e1.symm)
        · obtain ⟨tl, x6, rfl, hth, tn, s8⟩ := h
          have dw8 := dw56.sm s8
          have hd8 := s8.at_ dl _ rfl hd6
          have hthd : th ≠ dl := fun z => by rw [z, hd6] at nth6; cases nth6
          refine ⟨_, rfl, .inl ⟨rfl, _, SqL.of hd8⟩, _, rfl, _, rfl, dl, tvs, rfl, .inl (SqL.of hd8), by show 2 ≤ sizeLine; decide, fun tp ntp => ?_⟩
          have s9 : Sm H8 (upd H8 tp (.tup [.ref th, .int (tvs.length : Nat)])) := Sm.new ntp
          have hd9 := s9.at_ dl _ rfl hd8
          have pd9 : Paired (IsD (fun x => H x = none ∧ x ≠ dl) (upd H8 tp (.tup [.ref th, .int (tvs.length : Nat)]))) tvs DD := L2.Paired.mapP pd6 fun _ _ z => (z.imp fun _ _ h => ⟨h.1, h.2.1⟩).sm (s8.trans s9)
          have new9 : IsD (fun x => H x = none ∧ x ≠ dl) (upd H8 tp (.tup [.ref th, .int (tvs.length : Nat)])) (.ref tp) (tl, DD.length) := ⟨tp, th, rfl, by rw [upd_same, hdd], s9.at_ th _ rfl hth, nHth, hthd⟩
          have dw9 := dw8.sm s9
          generalize upd H8 tp (.tup [.ref th, .int (tvs.length : Nat)]) = H9 at hd9 pd9 new9 dw9 ⊢
          refine ⟨dl, tvs, _, rfl, rfl, hd9, small1000 (by omega), ?_⟩
          exact ⟨dl, tvs ++ [.ref tp], DD ++ [(tl, DD.length)], _, _, _, _, _, _, _, _, _, _, _, _, _, rfl, upd_same, PSnoc (L2.Paired.mapP pd9 fun _ _ z => z.upd hd9 fun z => z.2 rfl) (new9.upd hd9 fun z => z.2 rfl), sc.one (by omega) mx ⟨tn.len, fun q hq _ => tn.at_ q hq hq⟩ (fun p hp => g1_ok hev hp), nHd, dw9.mut rw0 nHd⟩
      · refine cond2 rfl rfl hd6 _ fun b2 hb2 => ?_
        refine ifB (fun hbt => ?_) (fun hbf => ?_)
        · obtain ⟨hm3, hl3⟩ := hb2 hbt
          refine ⟨by show 1 ≤ sizeLine; decide, fun l1 nl1 => ⟨_, rfl, mk0 _ l1 _ upd_same fun th nth => ⟨by show 1 ≤ sizeLine; decide, fun l2 nl2 => ⟨_, rfl, mk0 _ l2 _ upd_same fun bk nbk => ⟨_, _, rfl, ?_⟩⟩⟩⟩⟩
          obtain ⟨nth6, _⟩ := upd_no nth
          obtain ⟨nbk7, _⟩ := upd_no nbk
          have s7 : Sm H6 (upd (upd H6 l1 (.lst [.int 0])) th (.lst ((List.replicate m 0).map nI))) := (Sm.new nl1).add nth
          have hth7 : (upd (upd H6 l1 (.lst [.int 0])) th (.lst ((List.replicate m 0).map nI))) th = some (.lst ((List.replicate m 0).map nI)) := upd_same
          generalize (upd (upd H6 l1 (.lst [.int 0])) th (.lst ((List.replicate m 0).map nI))) = H7 at s7 hth7 nl2 nbk nbk7 ⊢
          have s8 : Sm H7 (upd (upd H7 l2 (.lst [.int 0])) bk (.lst ((List.replicate m 0).map nI))) := (Sm.new nl2).add nbk
          have hbk8 : (upd (upd H7 l2 (.lst [.int 0])) bk (.lst ((List.replicate m 0).map nI))) bk = some (.lst ((List.replicate m 0).map nI)) := upd_same
          have hth8 := s8.at_ th _ rfl hth7
          have htb : th ≠ bk := fun z => by rw [← z, hth7] at nbk7; cases nbk7
          generalize (upd (upd H7 l2 (.lst [.int 0])) bk (.lst ((List.replicate m 0).map nI))) = H8 at s8 hbk8 hth8 ⊢
          have s68 := s7.trans s8
          have dw8 := dw56.sm s68
          have nHth : H th = none := dw56.sx.no th nth6
          have nHbk : H bk = none := dw56.sx.no bk (s7.no bk nbk7)
          have thd : th ≠ dl := fun z => by rw [z, hd6] at nth6; cases nth6
          have bkd : bk ≠ dl := fun z => by rw [z, s7.at_ dl _ rfl hd6] at nbk7; cases nbk7
          have thm : th ≠ ml := fun z => by rw [z, hm6] at nth6; cases nth6
          have bkm : bk ≠ ml := fun z => by rw [z, s7.at_ ml _ rfl hm6] at nbk7; cases nbk7
          have hd8 := s68.at_ dl _ rfl hd6
          have hm8 := s68.at_ ml _ rfl hm6
          have pd8 : Paired (IsD (fun x => H x = none ∧ x ≠ dl ∧ x ≠ th ∧ x ≠ bk) H8) tvs DD := L2.Paired.mapP pd6 fun _ _ z => (z.imp fun x hx h => ⟨h.1, h.2.1, fun e => hx (by rw [e]; exact nth6), fun e => hx (by rw [e]; exact s7.no bk nbk7)⟩).sm s68
          refine cond3 rfl rfl dw8.rw_ hm3 fun c H9 dw9 hc => ?_
          have dw89 := dw8.trans dw9
          have hth9 := dw9.lst hth8 (na th nHth) rfl
          have hbk9 := dw9.lst hbk8 (na bk nHbk) rfl
          have hd9 := dw9.lst hd8 nda rfl
          have hm9 := dw9.lst hm8 nma rfl
          have pd9 : Paired (IsD (fun x => H x = none ∧ x ≠ dl ∧ x ≠ th ∧ x ≠ bk) H9) tvs DD := L2.Paired.mapP pd8 fun _ _ z => z.dw dw8.rw_ dw9 fun z => na a z.1 rfl
          have hcm : c ≤ m := by omega
          -- [(0, cut), (cut, many)]
          refine ⟨_, rfl, by show 2 ≤ sizeLine; decide, fun t1 nt1 => ⟨_, rfl, _, rfl, by show 2 ≤ sizeLine; decide, fun t2 nt2 => ⟨by show 2 ≤ sizeLine; decide, fun ll nll => ?_⟩⟩⟩
          have sA : Sm H9 (upd H9 t1 (.tup [.int 0, nI c])) := Sm.new nt1
          have pA : IsP (upd H9 t1 (.tup [.int 0, nI c])) (.ref t1) (0, c) := ⟨t1, rfl, upd_same⟩
          have sB : Sm (upd H9 t1 (.tup [.int 0, nI c])) (upd (upd H9 t1 (.tup [.int 0, nI c])) t2 (.tup [nI c, nI m])) := Sm.new nt2
          have pB : IsP (upd (upd H9 t1 (.tup [.int 0, nI c])) t2 (.tup [nI c, nI m])) (.ref t2) (c, m) := ⟨t2, rfl, upd_same⟩
          have sC : Sm (upd (upd H9 t1 (.tup [.int 0, nI c])) t2 (.tup [nI c, nI m])) (upd (upd (upd H9 t1 (.tup [.int 0, nI c])) t2 (.tup [nI c, nI m])) ll (.lst [.ref t1, .ref t2])) := Sm.new nll
          have hllC : (upd (upd (upd H9 t1 (.tup [.int 0, nI c])) t2 (.tup [nI c, nI m])) ll (.lst [.ref t1, .ref t2])) ll = some (.lst [.ref t1, .ref t2]) := upd_same
          have pAC := pA.mono (sB.trans sC).tk
          have pBC := pB.mono sC.tk
          have nll9 : H9 ll = none := (sA.trans sB).no ll nll
          have sABC := (sA.trans sB).trans sC
          generalize (upd (upd (upd H9 t1 (.tup [.int 0, nI c])) t2 (.tup [nI c, nI m])) ll (.lst [.ref t1, .ref t2])) = HA at sABC hllC pAC pBC ⊢
          have lth : ll ≠ th := fun z => by rw [z, hth9] at nll9; cases nll9
          have lbk : ll ≠ bk := fun z => by rw [z, hbk9] at nll9; cases nll9
          have pPs : Paired (IsP HA) [V.ref t1, V.ref t2] [(0, c), (c, m)] := .cons pAC (.cons pBC .nil)
          refine ⟨ll, rfl, ⟨_, SqL.of hllC⟩, for_list (xs := [V.ref t1, V.ref t2]) (fun k σB HB => ∃ (tl bl : List Nat) (x6 x9 x10 x11 : Option V), σB = [some (.ref a), some (nI m), some (.ref dl), some (nI i), some (.ref ml), some (.ref th), x6, some (.ref bk), some (nI c), x9, x10, x11, x12, x13, x14, x15] ∧ HB th = some (.lst (tl.map nI)) ∧ HB bk = some (.lst (bl.map nI)) ∧
              Tn m l (fun p => p) (g2 m c) (fun q => q < (if k = 0 then 0 else if k = 1 then c else m)) tl ∧ Tn m l (g2 m c) (fun p => p) (fun q => q < (if k = 0 then 0 else if k = 1 then c else m)) bl ∧
              HB ml = some (.lst (l.map nI)) ∧ HB dl = some (.lst tvs) ∧ Paired (IsD (fun x => H x = none ∧ x ≠ dl ∧ x ≠ th ∧ x ≠ bk) HB) tvs DD ∧ HB ll = some (.lst [.ref t1, .ref t2]) ∧ Tk HA HB ∧ Dw K sa ns a H HB)
            ⟨List.replicate m 0, List.replicate m 0, _, _, _, _, rfl, sABC.at_ th _ rfl hth9, sABC.at_ bk _ rfl hbk9, ⟨List.length_replicate, fun p hp h => absurd h (by simp)⟩, ⟨List.length_replicate, fun p hp h => absurd h (by simp)⟩, sABC.at_ ml _ rfl hm9, sABC.at_ dl _ rfl hd9, L2.Paired.mapP pd9 fun _ _ z => z.sm sABC, hllC, Tk.refl HA, dw89.sm sABC⟩
            (fun k σB HB _ h => by obtain ⟨_, _, _, _, _, _, _, _, _, _, _, _, _, _, h, _⟩ := h; exact SqL.of h) (fun k x σB HB hx h => ?_) (fun σB HB h => ?_)⟩
          · obtain ⟨tl, bl, x6, x9, x10, x11, rfl, hthB, hbkB, tn, tb, hmB, hdB, pdB, hlB, tkB, dwB⟩ := h
            obtain ⟨⟨s, e⟩, ese, hse⟩ := pget1 pPs hx
            have hk2 : k < 2 := by have := lt_of_get hx; exact this
            have hcase : (k = 0 ∧ s = 0 ∧ e = c) ∨ (k = 1 ∧ s = c ∧ e = m) := by
              rcases k with _ | _ | k
              · have z := Option.some.inj ese
                exact .inl ⟨rfl, (congrArg Prod.fst z).symm, (congrArg Prod.snd z).symm⟩
              · have z := Option.some.inj ese
                exact .inr ⟨rfl, (congrArg Prod.fst z).symm, (congrArg Prod.snd z).symm⟩
              · omega
            refine r_un2 (hse.mono tkB) ?_
            have ees : ((e : Int) - (s : Int)).toNat = e - s := by omega
            refine ⟨_, rfl, _, rfl, (s : Int), (e : Int), rfl, ⟨by omega, by omega, by omega, by omega⟩, ?_⟩
            rw [ees]
            have hs0 : (if k = 0 then 0 else if k = 1 then c else m) = s := by rcases hcase with ⟨h1, h2, _⟩ | ⟨h1, h2, _⟩ <;> simp [h1, h2]
            have hs1 : (if k + 1 = 0 then 0 else if k + 1 = 1 then c else m) = e := by rcases hcase with ⟨h1, _, h2⟩ | ⟨h1, _, h2⟩ <;> simp [h1, h2]
            rw [hs0] at tn tb
            have hem : e ≤ m := by omega
            have hsle : s ≤ e := by omega
            refine for_range (lo := (s : Int)) (n := e - s) (fun j σC HC => ∃ (tl bl : List Nat) (x6 x11 : Option V), σC = [some (.ref a), some (nI m), some (.ref dl), some (nI i), some (.ref ml), some (.ref th), x6, some (.ref bk), some (nI c), some (nI s), some (nI e), x11, x12, x13, x14, x15] ∧ HC th = some (.lst (tl.map nI)) ∧ HC bk = some (.lst (bl.map nI)) ∧
                Tn m l (fun p => p) (g2 m c) (fun q => q < s + j) tl ∧ Tn m l (g2 m c) (fun p => p) (fun q => q < s + j) bl ∧
                HC ml = some (.lst (l.map nI)) ∧ HC dl = some (.lst tvs) ∧ Paired (IsD (fun x => H x = none ∧ x ≠ dl ∧ x ≠ th ∧ x ≠ bk) HC) tvs DD ∧ HC ll = some (.lst [.ref t1, .ref t2]) ∧ Tk HA HC ∧ Dw K sa ns a H HC)
              ⟨tl, bl, _, _, rfl, hthB, hbkB, tn, tb, hmB, hdB, pdB, hlB, tkB, dwB⟩ (fun j σC HC hj h => ?_) (fun σC HC h => ?_)
            · obtain ⟨tl, bl, x6, x11, rfl, hthC, hbkC, tn, tb, hmC, hdC, pdC, hlC, tkC, dwC⟩ := h
              have ep : V.int ((s : Int) + (j : Int)) = nI (s + j) := nI_add s j
              rw [ep]
              obtain ⟨p, hpe⟩ : ∃ p, p = s + j := ⟨_, rfl⟩
              rw [← hpe] at tn tb ⊢
              have hpm : p < m := by omega
              obtain ⟨q1, q2, q3, q4⟩ := g2_ok hc hpm
              -- after = ..
              have fin : ∀ (y : Nat), y = g2 m c p → ∀ x11 : Option V, tAsg (tTup (tCons (tOp (rIxL K) (tVar 4) (tVar 11)) (tCons (tOp (rIxL K) (tVar 4) (tVar 6)) tNil))) (gTup K 2 (gCons (gSub (tVar 5) (tOp (rIxL K) (tVar 4) (tVar 6)) rSetL) (gCons (gSub (tVar 7) (tOp (rIxL K) (tVar 4) (tVar 11)) rSetL) gNil)))
                  ⟨fun σD HD => ∃ (tl bl : List Nat) (x6 x11 : Option V), σD = [some (.ref a), some (nI m), some (.ref dl), some (nI i), some (.ref ml), some (.ref th), x6, some (.ref bk), some (nI c), some (nI s), some (nI e), x11, x12, x13, x14, x15] ∧ HD th = some (.lst (tl.map nI)) ∧ HD bk = some (.lst (bl.map nI)) ∧ Tn m l (fun p => p) (g2 m c) (fun q => q < p + 1) tl ∧ Tn m l (g2 m c) (fun p => p) (fun q => q < p + 1) bl ∧ HD ml = some (.lst (l.map nI)) ∧ HD dl = some (.lst tvs) ∧ Paired (IsD (fun x => H x = none ∧ x ≠ dl ∧ x ≠ th ∧ x ≠ bk) HD) tvs DD ∧ HD ll = some (.lst [.ref t1, .ref t2]) ∧ Tk HA HD ∧ Dw K sa ns a H HD, fun _ _ => False, fun _ _ => False, fun _ _ => False⟩
                  [some (.ref a), some (nI m), some (.ref dl), some (nI i), some (.ref ml), some (.ref th), some (nI p), some (.ref bk), some (nI c), some (nI s), some (nI e), some (nI y), x12, x13, x14, x15] HC := by
                intro y hy _
                subst hy
                refine ⟨_, rfl, _, rfl, r_ixL hmC (gl _ q1) ⟨_, rfl, _, rfl, r_ixL hmC (gl p hpm) ⟨by show 2 ≤ sizeLine; decide, fun tp ntp => ?_⟩⟩⟩
                have sD : Sm HC (upd HC tp (.tup [nI (l.getD (g2 m c p) 0), nI (l.getD p 0)])) := Sm.new ntp
                have htp : (upd HC tp (.tup [nI (l.getD (g2 m c p) 0), nI (l.getD p 0)])) tp = some (.tup [nI (l.getD (g2 m c p) 0), nI (l.getD p 0)]) := upd_same
                have dwD := dwC.sm sD
                generalize (upd HC tp (.tup [nI (l.getD (g2 m c p) 0), nI (l.getD p 0)])) = HD at sD htp dwD ⊢
                have hthD := sD.at_ th _ rfl hthC
                have hbkD := sD.at_ bk _ rfl hbkC
                have hmD := sD.at_ ml _ rfl hmC
                have lp := mx.lt' hpm
                have lg := mx.lt' q1
                refine ⟨tp, _, rfl, SqT.of htp, rfl, _, _, rfl, _, rfl, _, rfl, _, rfl, r_ixL hmD (gl p hpm) ⟨th, _, _, l.getD p 0, rfl, rfl, hthD, ixN_n (by rw [List.length_map, tn.len]; exact lp), ?_⟩⟩
                have pdE : Paired (IsD (fun x => H x = none ∧ x ≠ dl ∧ x ≠ th ∧ x ≠ bk) (upd HD th (.lst ((tl.map nI).set (l.getD p 0) (nI (l.getD (g2 m c p) 0)))))) tvs DD := L2.Paired.mapP pdC fun _ _ z => (z.sm sD).upd hthD fun z => z.2.2.1 rfl
                have hthE : (upd HD th (.lst ((tl.map nI).set (l.getD p 0) (nI (l.getD (g2 m c p) 0))))) th = some (.lst ((tl.set (l.getD p 0) (l.getD (g2 m c p) 0)).map nI)) := by rw [upd_same, set_nI]
                have hbkE : (upd HD th (.lst ((tl.map nI).set (l.getD p 0) (nI (l.getD (g2 m c p) 0))))) bk = some (.lst (bl.map nI)) := by rw [upd_ne htb.symm]; exact hbkD
                have hmE : (upd HD th (.lst ((tl.map nI).set (l.getD p 0) (nI (l.getD (g2 m c p) 0))))) ml = some (.lst (l.map nI)) := by rw [upd_ne thm.symm]; exact hmD
                have hdE : (upd HD th (.lst ((tl.map nI).set (l.getD p 0) (nI (l.getD (g2 m c p) 0))))) dl = some (.lst tvs) := by rw [upd_ne thd.symm]; exact sD.at_ dl _ rfl hdC
                have hlE : (upd HD th (.lst ((tl.map nI).set (l.getD p 0) (nI (l.getD (g2 m c p) 0))))) ll = some (.lst [.ref t1, .ref t2]) := by rw [upd_ne lth]; exact sD.at_ ll _ rfl hlC
                have dwE : Dw K sa ns a H (upd HD th (.lst ((tl.map nI).set (l.getD p 0) (nI (l.getD (g2 m c p) 0))))) := dwD.mut rw0 nHth
                have tkE : Tk HC (upd HD th (.lst ((tl.map nI).set (l.getD p 0) (nI (l.getD (g2 m c p) 0))))) := sD.tk.trans (Tk.lst hthD)
                generalize (upd HD th (.lst ((tl.map nI).set (l.getD p 0) (nI (l.getD (g2 m c p) 0))))) = HE at pdE hthE hbkE hmE hdE hlE dwE tkE ⊢
                refine ⟨_, _, rfl, _, rfl, _, rfl, _, rfl, r_ixL hmE (gl _ q1) ⟨bk, _, _, l.getD (g2 m c p) 0, rfl, rfl, hbkE, ixN_n (by rw [List.length_map, tb.len]; exact lg), rfl, ?_⟩⟩
                have z1 := Tn.set mx tn (q := p) hpm (fun _ h => h) (fun _ _ _ _ h => h)
                have z2 := Tn.set mx tb (q := p) hpm (fun p hp => (g2_ok hc hp).1) (g2_inj hc)
                exact ⟨tl.set (l.getD p 0) (l.getD (g2 m c p) 0), bl.set (l.getD (g2 m c p) 0) (l.getD p 0), _, _, rfl, by rw [upd_ne htb]; exact hthE, by rw [upd_same, set_nI], ⟨z1.len, fun q hq hlt => z1.at_ q hq (by omega)⟩, ⟨z2.len, fun q hq hlt => z2.at_ q hq (by omega)⟩, by rw [upd_ne bkm.symm]; exact hmE, by rw [upd_ne bkd.symm]; exact hdE, L2.Paired.mapP pdE fun _ _ z => z.upd hbkE fun z => z.2.2.2 rfl, by rw [upd_ne lbk]; exact hlE, tkC.trans (tkE.trans (Tk.lst hbkE)), dwE.mut rw0 nHbk⟩
              have ej : s + (j + 1) = p + 1 := by omega
              rw [ej]
              refine ⟨_, rfl, _, 1, rfl, rfl, _, rfl, _, _, rfl, rfl, _, rfl, ifB (fun hlt => ?_) (fun hge => ?_)⟩
              · have hlt2 := of_decide_eq_true hlt
                have eg : p + 1 = g2 m c p := by
                  unfold g2
                  rcases hcase with ⟨_, h2, h3⟩ | ⟨_, h2, h3⟩
                  · rw [if_pos (by omega), if_pos (by omega)]
                  · rw [if_neg (by omega), if_pos (by omega)]
                exact ⟨_, rfl, _, 1, rfl, rfl, fin (p + 1) eg none⟩
              · have hge2 := of_decide_eq_false hge
                have eg : s = g2 m c p := by
                  unfold g2
                  rcases hcase with ⟨_, h2, h3⟩ | ⟨_, h2, h3⟩
                  · rw [if_pos (by omega), if_neg (by omega)]; exact h2
                  · rw [if_neg (by omega), if_neg (by omega)]; exact h2
                exact ⟨_, rfl, fin s eg none⟩
            · obtain ⟨tl, bl, x6, x11, rfl, hthC, hbkC, tn, tb, hmC, hdC, pdC, hlC, tkC, dwC⟩ := h
              have es : s + (e - s) = e := by omega
              rw [es] at tn tb
              exact ⟨tl, bl, _, _, _, _, rfl, hthC, hbkC, by rw [hs1]; exact tn, by rw [hs1]; exact tb, hmC, hdC, pdC, hlC, tkC, dwC⟩
          · obtain ⟨tl, bl, x6, x9, x10, x11, rfl, hthB, hbkB, tn, tb, hmB, hdB, pdB, hlB, tkB, dwB⟩ := h
            have tn2 : Tn m l (fun p => p) (g2 m c) (fun _ => True) tl := ⟨tn.len, fun q hq _ => tn.at_ q hq hq⟩
            have tb2 : Tn m l (g2 m c) (fun p => p) (fun _ => True) bl := ⟨tb.len, fun q hq _ => tb.at_ q hq hq⟩
            have sc2 := sc.two (by omega) mx tn2 tb2 fun p hp => g2_ok hc hp
            -- doors = doors + [..]
            refine ⟨_, rfl, _, rfl, _, rfl, dl, tvs, rfl, .inl (SqL.of hdB), _, 1, rfl, rfl, by show 2 ≤ sizeLine; decide, fun u1 nu1 => ?_⟩
            have sC1 : Sm HB (upd HB u1 (.tup [.ref th, .int ((tvs.length : Nat) + 1)])) := Sm.new nu1
            have hu1 : (upd HB u1 (.tup [.ref th, .int ((tvs.length : Nat) + 1)])) u1 = some (.tup [.ref th, nI (DD.length + 1)]) := by rw [upd_same, hdd]; rfl
            generalize (upd HB u1 (.tup [.ref th, .int ((tvs.length : Nat) + 1)])) = HC at sC1 hu1 ⊢
            refine ⟨_, rfl, _, rfl, dl, tvs, rfl, .inl (SqL.of (sC1.at_ dl _ rfl hdB)), by show 2 ≤ sizeLine; decide, fun u2 nu2 => ⟨by show 2 ≤ sizeLine; decide, fun l5 nl5 => ?_⟩⟩
            have sC2 : Sm HC (upd HC u2 (.tup [.ref bk, .int (tvs.length : Nat)])) := Sm.new nu2
            have hu2 : (upd HC u2 (.tup [.ref bk, .int (tvs.length : Nat)])) u2 = some (.tup [.ref bk, nI DD.length]) := by rw [upd_same, hdd]
            generalize (upd HC u2 (.tup [.ref bk, .int (tvs.length : Nat)])) = HD at sC2 hu2 nl5 ⊢
            have sC3 : Sm HD (upd HD l5 (.lst [.ref u1, .ref u2])) := Sm.new nl5
            refine ⟨dl, l5, tvs, _, rfl, rfl, ((sC1.trans sC2).trans sC3).at_ dl _ rfl hdB, upd_same, Nat.le_of_lt (small1000 (by show tvs.length + 2 ≤ 1000; omega)), fun dl2 ndl2 => ?_⟩
            have sC4 := ((sC1.trans sC2).trans sC3).add (o := .lst (tvs ++ [.ref u1, .ref u2])) ndl2
            have dwF := dwB.sm sC4
            have nd2 : HB dl2 = none := ((sC1.trans sC2).trans sC3).no dl2 ndl2
            have nHd2 : H dl2 = none := dwB.sx.no dl2 nd2
            have sZ : Sm HD (upd (upd HD l5 (.lst [.ref u1, .ref u2])) dl2 (.lst (tvs ++ [.ref u1, .ref u2]))) := sC3.add ndl2
            refine ⟨dl2, tvs ++ [.ref u1, .ref u2], DD ++ [(tl, DD.length + 1), (bl, DD.length)], _, _, _, _, _, _, _, _, _, _, _, _, _, rfl, upd_same, ?_, sc2, nHd2, dwF⟩
            refine PApp (L2.Paired.mapP pdB fun _ _ z => (z.imp fun x hx h => ⟨h.1, fun e => hx (by rw [e]; exact nd2)⟩).sm sC4) (.cons ⟨u1, th, rfl, (sC2.trans sZ).tk _ _ hu1, sC4.at_ th _ rfl hthB, nHth, fun z => ?_⟩ (.cons ⟨u2, bk, rfl, sZ.tk _ _ hu2, sC4.at_ bk _ rfl hbkB, nHbk, fun z => ?_⟩ .nil))
            · rw [z, nd2] at hthB; cases hthB
            · rw [z, nd2] at hbkB; cases hbkB
        · exact ⟨dl, tvs, DD, _, _, _, _, _, _, _, _, _, _, _, _, _, rfl, hd6, L2.Paired.mapP pd6 fun _ _ z => z.imp fun _ _ h => ⟨h.1, h.2.1⟩, sc, nHd, dw56⟩
    · obtain ⟨dl, tvs, DD, x3, x4, x5, x6, x7, x8, x9, x10, x11, x12, x13, x14, x15, rfl, hd4, pd4, sc, nHd, dw4⟩ := h
      have hdd := pd4.length
      have hD4 := sc.2
      refine ⟨_, rfl, _, rfl, by omega, by omega, fun D nD => lc_it (walk_rg (n := m)) (fun i Hi => ∃ tv, Hi D = some (.lst tv) ∧ Paired (IsPs Hi) tv ((schW m DD).take i) ∧ Sm H4 Hi) ⟨[], upd_same, by rw [List.take_zero]; exact .nil, Sm.new nD⟩ (fun _ _ _ _ => trivial) (fun r x Hk Hi hr6 h hY => ?_) (fun Hi h => ?_)⟩
      · obtain ⟨tv, hD, pt, si⟩ := h
        obtain ⟨rfl, rfl⟩ := hY
        have hptl := pt.length
        have hsl : (schW m DD).length = m := sch_len
        rw [List.length_take] at hptl
        refine ⟨rfl, r_yes ⟨_, rfl, dl, rfl, ⟨_, SqL.of (si.at_ dl _ rfl hd4)⟩, fun D2 nD2 => lc_list (xs := tvs) (fun j Hj => ∃ qv, Hj D2 = some (.lst qv) ∧ Paired (IsP Hj) qv ((DD.take j).map fun q => (q.1.getD r 0, q.2)) ∧ Sm Hi Hj) ⟨[], upd_same, .nil, Sm.new nD2⟩ (fun j Hj _ h => by obtain ⟨_, _, _, h⟩ := h; exact SqL.of (h.at_ dl _ rfl (si.at_ dl _ rfl hd4))) (fun j x Hj hx h => ?_) (fun Hj h => ?_)⟩⟩
        · obtain ⟨qv, hD2, pq, sj⟩ := h
          obtain ⟨⟨tl, mt⟩, ep, hp⟩ := pget1 pd4 hx
          obtain ⟨ta, tla, rfl, hta, htl, _⟩ := hp.sm (si.trans sj)
          have hj := lt_of_get ep
          have hql := pq.length
          rw [List.length_map, List.length_take] at hql
          obtain ⟨tlen, _⟩ := sc.1 _ _ _ ep
          refine r_un2v hta ⟨rfl, r_yes ⟨_, rfl, _, rfl, r_ixL htl (get_nI (i := r) (by show r < tl.length; omega)) ⟨_, rfl, by show 2 ≤ sizeLine; decide, fun p np => ?_⟩⟩⟩
          have hD2' := (Sm.new (o := .tup [nI (tl.getD r 0), nI mt]) np).at_ D2 _ rfl hD2
          have tk : Tk Hj (upd (upd Hj p (.tup [nI (tl.getD r 0), nI mt])) D2 (.lst (qv ++ [.ref p]))) := (Tk.new np).trans (Tk.lst hD2')
          refine ⟨qv, hD2', small1000 (by omega), qv ++ [.ref p], upd_same, ?_, (sj.add np).mut nD2⟩
          rw [List.take_add_one, ep, List.map_append]
          exact PSnoc (L2.Paired.mapP pq fun _ _ z => z.mono tk) ⟨p, rfl, Tk.lst hD2' _ _ upd_same⟩
        · obtain ⟨qv, hD2, pq, sj⟩ := h
          rw [hdd, List.take_length] at pq
          refine .inl ⟨D2, qv, rfl, SqL.of hD2, fun tq ntq => ?_⟩
          have s8 : Sm Hi (upd Hj tq (.tup qv)) := sj.add ntq
          have hD8 := s8.at_ D _ rfl hD
          have t9 : Tk (upd Hj tq (.tup qv)) (upd (upd Hj tq (.tup qv)) D (.lst (tv ++ [.ref tq]))) := Tk.lst hD8
          have hcw : (schW m DD)[r]? = some (DD.map fun q => (q.1.getD r 0, q.2)) := by
            unfold schW
            rw [List.getElem?_map, List.getElem?_range hr6]; rfl
          refine ⟨tv, hD8, small1000 (by omega), tv ++ [.ref tq], upd_same, ?_, (si.trans s8).mut nD⟩
          rw [List.take_add_one, hcw]
          exact PSnoc (L2.Paired.mapP pt fun _ _ z => z.mono (s8.tk.trans t9)) ⟨tq, qv, rfl, t9 _ _ upd_same, L2.Paired.mapP pq fun _ _ z => z.mono ((Tk.new ntq).trans t9)⟩
      · obtain ⟨tv, hD, pt, si⟩ := h
        have hsl : (schW m DD).length = m := sch_len
        rw [List.take_of_length_le (by omega)] at pt
        refine .inl ⟨D, tv, rfl, SqL.of hD, fun wa nwa => ?_⟩
        have s5 : Sm H4 (upd Hi wa (.tup tv)) := si.add nwa
        have hW : IsW (upd Hi wa (.tup tv)) (.ref wa) (schW m DD) := ⟨wa, tv, rfl, upd_same, L2.Paired.mapP pt fun _ _ z => z.mono (Tk.new nwa)⟩
        have dw5 : Dw K sa ns a H (upd Hi wa (.tup tv)) := dw4.sm s5
        generalize upd Hi wa (.tup tv) = H5 at hW dw5 ⊢
        -- joined = [0]
        refine ⟨by show 1 ≤ sizeLine; decide, fun jl njl => ?_⟩
        have s6 : Sm H5 (upd H5 jl (.lst [.int 0])) := Sm.new njl
        have sch0 : ∀ x ∈ [0], x < m ∧ ∃ row, go (schW m DD) 0 row = some x := fun x hx => by
          rw [List.mem_singleton.mp hx]
          exact ⟨by omega, [], rfl⟩
        refine ⟨_, rfl, _, rfl, by omega, by omega, for_rg (n := m) (fun i σ6 H6 => ∃ (jl : Addr) (js : List Nat) (x3 x5 x12 x15 : Option V), σ6 = [some (.ref a), some (nI m), some (.ref dl), x3, x4, x5, x6, x7, x8, x9, x10, x11, x12, some (.ref wa), some (.ref jl), x15] ∧ H6 jl = some (.lst (js.map nI)) ∧ js.Nodup ∧ (∀ x ∈ js, x < m ∧ ∃ row, go (schW m DD) 0 row = some x) ∧ Sm H5 H6)
          ⟨jl, [0], _, _, _, _, rfl, upd_same, by simp, sch0, s6⟩ (fun i σ6 H6 hi6 h => ?_) (fun σ6 H6 h => ?_)⟩
        · obtain ⟨jl, js, x3, x5, x12, x15, rfl, hj6, jnd, jr, sm6⟩ := h
          have jlen : js.length ≤ m := by
            have z := nd_le js (List.range m) jnd fun x hx => List.mem_range.mpr (jr x hx).1
            rw [List.length_range] at z
            exact z
          refine ⟨_, rfl, jl, _, rfl, .inl (SqL.of hj6), fun cl ncl => ?_⟩
          have s7 : Sm H6 (upd H6 cl (.lst (js.map nI))) := Sm.new ncl
          refine ⟨cl, rfl, ⟨_, SqL.of upd_same⟩, for_list (xs := js.map nI) (fun j σ7 H7 => ∃ (jl : Addr) (ks : List Nat) (x5 x12 x15 : Option V), σ7 = [some (.ref a), some (nI m), some (.ref dl), some (nI i), x4, x5, x6, x7, x8, x9, x10, x11, x12, some (.ref wa), some (.ref jl), x15] ∧ H7 jl = some (.lst (ks.map nI)) ∧ ks.Nodup ∧ (∀ x ∈ ks, x < m ∧ ∃ row, go (schW m DD) 0 row = some x) ∧ Sm H5 H7 ∧ H7 cl = some (.lst (js.map nI)))
            ⟨jl, js, _, _, _, rfl, s7.at_ jl _ rfl hj6, jnd, jr, sm6.trans s7, upd_same⟩ (fun j σ7 H7 _ h => by obtain ⟨_, _, _, _, _, _, _, _, _, _, h⟩ := h; exact SqL.of h) (fun j x σ7 H7 hx h => ?_) (fun σ7 H7 h => ?_)⟩
          · obtain ⟨jl7, ks, x5, x12, x15, rfl, hj7, knd, kr, sm7, hcl⟩ := h
            rw [List.getElem?_map] at hx
            obtain ⟨t, ht, hx2⟩ : ∃ t, js[j]? = some t ∧ x = nI t := by
              cases e : js[j]? with
              | none => rw [e] at hx; cases hx
              | some d => rw [e] at hx; exact ⟨d, rfl, (Option.some.inj hx).symm⟩
            subst hx2
            obtain ⟨htm, trow, htr⟩ := jr t (mem_of_get ht)
            have klen : ks.length ≤ m := by
              have z := nd_le ks (List.range m) knd fun x hx => List.mem_range.mpr (kr x hx).1
              rw [List.length_range] at z
              exact z
            refine ⟨_, rfl, _, rfl, _, rfl, r_web (hW.mono sm7.tk) (by omega) fun ds dv e1 hds => ?_⟩
            obtain ⟨da, dvs, rfl, hda, pds⟩ := hds
            have hdl := pds.length
            have hds4 : ds.length ≤ 4 := by
              have z : (schW m DD)[t]? = some (DD.map fun q => (q.1.getD t 0, q.2)) := by
                unfold schW
                rw [List.getElem?_map, List.getElem?_range htm]; rfl
              rw [e1] at z
              rw [Option.some.inj z, List.length_map]
              exact hD4
            refine ⟨da, rfl, ⟨_, SqT.of hda⟩, fun D nD => lc_tup (xs := dvs) (fun j Hj => Hj D = some (.lst (((ds.take j).map Prod.fst).map nI)) ∧ Sm H7 Hj) ⟨upd_same, Sm.new nD⟩ (fun j Hj _ h => SqT.of (h.2.tk _ _ hda)) (fun j y Hj hy h => ?_) (fun Hj h => ?_)⟩
            · obtain ⟨hD, sj⟩ := h
              obtain ⟨⟨t, bk⟩, ep, hp⟩ := pget1 pds hy
              refine r_un2 (hp.mono sj.tk) ⟨rfl, r_yes ⟨_, rfl, _, hD, by rw [List.length_map, List.length_map, List.length_take]; exact small1000 (by omega), ?_, sj.mut nD⟩⟩
              rw [upd_same, List.take_add_one, ep]
              show some (HO.lst _) = _
              rw [List.map_append, List.map_append]
              rfl
            · obtain ⟨hD, sj⟩ := h
              rw [hdl, List.take_length] at hD
              refine ⟨jl7, D, _, _, rfl, rfl, sj.at_ jl7 _ rfl hj7, hD, ?_, fun p np => ?_⟩
              · rw [List.length_map, List.length_map, List.length_map]
                exact Nat.le_of_lt (small1000 (by omega))
              · have hms : (ks.map nI ++ (ds.map Prod.fst).map nI) = ((ks ++ ds.map Prod.fst).map fun x : Nat => (x : Int)).map V.int := by simp only [List.map_append, List.map_map]; rfl
                have s8 : Sm H7 (upd Hj p (.lst (ks.map nI ++ (ds.map Prod.fst).map nI))) := sj.add np
                refine ⟨p, _, rfl, SqL.of (by rw [← hms]; exact upd_same), by rw [List.length_map, List.length_append, List.length_map]; omega, fun sp n nsp hn => ?_⟩
                rw [List.length_map, List.length_append, List.length_map] at hn
                refine ⟨sp, _, n, rfl, upd_same, by omega, fun ns2 p2 asc mem hln np2 => ?_⟩
                obtain ⟨ls, rfl⟩ := nats_of (ns := ns2) fun k hk => by
                  have z := of_decide_eq_true ((mem k).mp hk)
                  obtain ⟨x, _, e⟩ := List.mem_map.mp z
                  omega
                have hls : (ls.map fun x : Nat => (x : Int)).map V.int = ls.map nI := by rw [List.map_map]; rfl
                refine ⟨p2, ls, _, _, _, rfl, by rw [upd_same, hls], ?_, fun x hx => ?_, sm7.trans ((s8.add nsp).add np2), ((s8.add nsp).add np2).at_ cl _ rfl hcl⟩
                · have z := List.pairwise_map.mp asc
                  exact List.Pairwise.imp (fun h e => by rw [e] at h; exact Int.lt_irrefl _ h) z
                · have z := of_decide_eq_true ((mem (x : Int)).mp (List.mem_map.mpr ⟨x, hx, rfl⟩))
                  obtain ⟨y, hy, e⟩ := List.mem_map.mp z
                  obtain rfl : y = x := by omega
                  rcases List.mem_append.mp hy with h | h
                  · exact kr _ h
                  · obtain ⟨q, hq, e⟩ := List.mem_map.mp h
                    obtain ⟨d, hd, e2⟩ := get_of_mem hq
                    have hdo : door (schW m DD) t d = some (y, q.2) := by rw [door_at e1, e2, ← e]
                    refine ⟨?_, trow ++ [d], go_snoc htr hdo⟩
                    obtain ⟨_, z2⟩ := sch_back sc _ _ _ _ hdo
                    have z3 := door_lt z2
                    rw [hsl] at z3
                    exact z3.1
          · obtain ⟨jl7, ks, x5, x12, x15, rfl, hj7, knd, kr, sm7, hcl⟩ := h
            exact ⟨jl7, ks, _, _, _, _, rfl, hj7, knd, kr, sm7⟩
        · obtain ⟨jl, js, x3, x5, x12, x15, rfl, hj6, jnd, jr, sm6⟩ := h
          refine ⟨_, rfl, jl, _, rfl, .inl (SqL.of hj6), _, rfl, rfl, _, rfl, ?_⟩
          rw [List.length_map]
          by_cases hfull : js.length = m
          · refine ifT (eq_yes (a := js.length) (b := m) hfull) ⟨_, rfl, ?_⟩
            have z := nd_all (l := js) (m := List.range m) jnd (fun x hx => List.mem_range.mpr (jr x hx).1) (by rw [List.length_range]; omega)
            exact q _ wa _ (dw5.sm sm6) (hW.mono sm6.tk) (sch_ok m2 (by omega) sc fun r hr => (jr r (z r (List.mem_range.mpr hr))).2)
          · have dw6 := dw5.sm sm6
            refine ifF (eq_no (a := js.length) (b := m) hfull) ⟨_, rfl, a, sa, ns, rfl, dw6.rw_, fun H7 p W dw7 hW7 okW => q _ p W (dw6.trans dw7) hW7 okW⟩
end
end K2
namespace K2
open PySem PySem.Spec PyProof.Rows L2
abbrev st_law_web : Stmt := topS 48
theorem sc_law_web : FnScope ["_law_row", "_law_kind"] ["_law_row"] (C8.fnScope st_law_web) := C8.fnScope_by (by decide +kernel)
-- slots: _law_row=0 _law_kind=1

section
variable {P : Program} {w : World} {K : PySem.W.Frag} {mg : Str → Option Value} {base : Heap}
theorem cal_law_web {f : Addr} {fd : FuncData} (F : C8.Def K mg "_law_web" st_law_web f fd) (b : Binds K fd ["_law_row"] []) (G : Glob mg) (c_law_taken : C8.Cal P w K mg base 1 "_law_taken" (spTaken K) []) (c_law_schreier : C8.Cal P w K mg base 4 "_law_schreier" (spGen K) []) (c_law_cayley : C8.Cal P w K mg base 3 "_law_cayley" (spGen K) []) (c_law_doubled : C8.Cal P w K mg base 3 "_law_doubled" (spGen K) []) (c_law_drawn : C8.Cal P w K mg base 3 "_law_drawn" (spDrawn K) []) : C8.Cal P w K mg base 5 "_law_web" (spGen K) [] := by
  refine C8.cal0 (k := 4) F b .nil sc_law_web (fun vs H Q E h => ?_) (fun cdv A outer s H vs Q E hr h => ?_)
  · obtain ⟨_, _, _, rfl, _⟩ := h
    rfl
  · obtain ⟨a, sa, ns, rfl, rw0, q⟩ := h
    refine ⟨_, (pss_cons (ps_set (i := 1) sc_law_web.nd rfl (.inl rfl) (C8.pe_c c_law_taken hr (by decide) (by rfl) (pa_cons (pv 0) (pa_cons pe_int pa_nil))))
    (pss_cons (ps_if (pt_cmpR op_lt (pv 1) pe_int (nomark _)) 
      (pss_one (ps_ret (pe_ifExp (pt_cmpR op_eq (pv 1) pe_int (nomark _)) (C8.pe_c c_law_schreier hr (by decide) (by rfl) (pa_cons (pv 0) pa_nil)) (C8.pe_c c_law_cayley hr (by decide) (by rfl) (pa_cons (pv 0) pa_nil))))) pss_nil)
    (pss_cons (ps_if (pt_cmpR op_eq (pv 1) pe_int (nomark _)) 
      (pss_one (ps_ret (C8.pe_c c_law_doubled hr (by decide) (by rfl) (pa_cons (pv 0) pa_nil)))) pss_nil)
    (pss_one (ps_ret (pe_ifExp (pt_cmpR op_eq (pv 1) pe_int (nomark _)) (C8.pe_c c_law_drawn hr (by decide) (by rfl) (pa_cons (pv 0) (pa_cons (pe_op op_add pe_int (C8.pe_c c_law_taken hr (by decide) (by rfl) (pa_cons (pv 0) (pa_cons pe_int pa_nil)))) pa_nil))) (C8.pe_c c_law_schreier hr (by decide) (by rfl) (pa_cons (pv 0) pa_nil)))))))), ?_⟩
    refine ⟨_, rfl, a, sa, ns, 5, rfl, by omega, by omega, rw0, fun H1 v dw1 hv => ?_⟩
    have gen : ∀ Hx, Dw K sa ns a H Hx → (spGen K) [.ref a] Hx Q C8.E0 := fun Hx dwx => ⟨a, sa, ns, rfl, dwx.rw_, fun H' p W dw hW ok => q H' p W (dwx.trans dw) hW ok⟩
    refine ⟨_, rfl, _, 2, rfl, rfl, _, rfl, ifB (fun _ => ?_) (fun _ => ?_)⟩
    · refine ⟨_, rfl, rfl, _, rfl, ?_⟩
      by_cases h0 : v = 0
      · exact ifT (eq_yes (a := v) (b := 0) h0) ⟨_, rfl, gen _ dw1⟩
      · exact ifF (eq_no (a := v) (b := 0) h0) ⟨_, rfl, gen _ dw1⟩
    · refine ⟨_, rfl, rfl, _, rfl, ?_⟩
      by_cases h2 : v = 2
      · exact ifT (eq_yes (a := v) (b := 2) h2) ⟨_, rfl, gen _ dw1⟩
      · refine ifF (eq_no (a := v) (b := 2) h2) ⟨_, rfl, rfl, _, rfl, ?_⟩
        by_cases h3 : v = 3
        · refine ifT (eq_yes (a := v) (b := 3) h3) ⟨_, rfl, _, rfl, a, sa, ns, 4, rfl, by omega, by omega, dw1.rw_, fun H2 u dw2 hu => ⟨2, _, rfl, rfl, a, sa, ns, 2 + u, ?_, by omega, by omega, dw2.rw_, fun H' p W dw hW ok => q H' p W ((dw1.trans dw2).trans dw) hW ok⟩⟩
          rw [← nI_add 2 u]; rfl
        · exact ifF (eq_no (a := v) (b := 3) h3) ⟨_, rfl, gen _ dw1⟩
end
end K2
namespace K2
open PySem PySem.Spec PyProof.Rows L2
abbrev st_law_pairs : Stmt := topS 51
theorem sc_law_pairs : FnScope ["_law_web_here", "_law_one", "_law_other", "_law_found", "_law_last", "_law_layers", "_law_fresh", "_law_mine", "_law_its", "_law_door", "_law_there"] ["_law_web_here", "_law_one", "_law_other"] (C8.fnScope st_law_pairs) := C8.fnScope_by (by decide +kernel)
-- slots: _law_web_here=0 _law_one=1 _law_other=2 _law_found=3 _law_last=4 _law_layers=5 _law_fresh=6 _law_mine=7 _law_its=8 _law_door=9 _law_there=10

def encB (fs : List ((Nat × Nat) × Nat)) : List (List Key × V) := fs.map fun q => (kP q.1, .bl true)
theorem encB_some {es : List ((Nat × Nat) × Nat)} (nd : (es.map Prod.fst).Nodup) {x : Nat × Nat} (h : x ∈ es.map Prod.fst) : valV (encB es) (kP x) = some (.bl true) := by
  obtain ⟨e, h1, h2⟩ := List.mem_map.mp h
  have z := val_some (f := kP) kP_inj (g := fun _ : Nat => V.bl true) (fs := es) nd (x := e.1) (v := e.2) h1
  rw [← h2]
  exact z
theorem encB_none {es : List ((Nat × Nat) × Nat)} {x : Nat × Nat} (h : x ∉ es.map Prod.fst) : valV (encB es) (kP x) = none := val_none (f := kP) kP_inj (g := fun _ : Nat => V.bl true) h
/-- the layers of the pairs from (a, b) -/
structure LayE (W : Web) (a b : Nat) (Ls : List (List (Nat × Nat))) : Prop where
  lay : ∀ (i : Nat) l, Ls[i]? = some l → l.Nodup ∧ ∀ x, x ∈ l ↔ Pl W a b i x
  all : ∀ i x, Pl W a b i x → i < Ls.length
section
variable {P : Program} {w : World} {K : PySem.W.Frag} {mg : Str → Option Value} {base : Heap}
def spLPairs : Sp := fun vs H Q _ => ∃ (wv : V) (W : Web) (a b : Nat), vs = [wv, nI a, nI b] ∧ IsW H wv W ∧ Ok W ∧ a < W.length ∧ b < W.length ∧ Alike W a b ∧
  ∀ H' p lls Ls, Sm H H' → H p = none → H' p = some (.lst lls) → Paired (IsL H') lls Ls → LayE W a b Ls → Ls.length ≤ 50 → Q (.ref p) H'
theorem cal_law_pairs {f : Addr} {fd : FuncData} (F : C8.Def K mg "_law_pairs" st_law_pairs f fd) (b : Binds K fd ["_law_web_here", "_law_one", "_law_other"] []) (G : Glob mg) : C8.Cal P w K mg base 1 "_law_pairs" spLPairs [] := by
  refine C8.cal0 (k := 0) F b .nil sc_law_pairs (fun vs H Q E h => ?_) (fun cdv A outer s H vs Q E hr h => ?_)
  · obtain ⟨_, _, _, _, rfl, _⟩ := h
    rfl
  · obtain ⟨wv, W, a, b, rfl, hW, ok, ha, hb, al, q⟩ := h
    refine ⟨_, (pss_cons (ps_par3 (i := 3) (j := 4) (l := 5) (by rfl) sc_law_pairs.nd rfl rfl rfl (by decide) (by decide) (by decide) rfl rfl rfl (pa_cons (pe_dispT (hu_of hr) (pe_tup (pa_cons (pv 1) (pa_cons (pv 2) pa_nil))) pe_bl) (pa_cons (pe_lst (pa_cons (pe_tup (pa_cons (pv 1) (pa_cons (pv 2) pa_nil))) pa_nil)) (pa_cons (pe_lst pa_nil) pa_nil))) (by rfl))
    (pss_cons (ps_while PassesOwn.never (pt_cmpR (op_neD hr.units) (pv 4) (pe_lst pa_nil) (nomark _)) 
      (pss_cons (ps_expr (pe_bm PySem.F.plainAttrs_list PySem.F.slot_list_append PySem.F.type_list_append mt_append (pv 5) (pa_cons (pv 4) pa_nil)))
      (pss_cons (ps_set (i := 6) sc_law_pairs.nd rfl (.inl rfl) (pe_lst pa_nil))
      (pss_cons (ps_for PassesOwn.never rfl (pi_list (pv 4)) (pg_tup rfl (pgs_cons (pg_name (i := 7) sc_law_pairs.nd rfl (.inl rfl)) (pgs_cons (pg_name (i := 8) sc_law_pairs.nd rfl (.inl rfl)) pgs_nil))) 
        (pss_one (ps_for PassesOwn.never rfl (pi_range1 (by rfl) G.range (pa_cons (pe_callB (id := "len") call_len_seq (by rfl) G.len (by decide +kernel) (pa_cons (pe_ix ix_tup (pv 0) (pv 7) (fun _ _ => rfl)) pa_nil)) pa_nil)) (pg_name (i := 9) sc_law_pairs.nd rfl (.inl rfl)) 
          (pss_cons (ps_set (i := 10) sc_law_pairs.nd rfl (.inl rfl) (pe_tup (pa_cons (pe_ix ix_tup (pe_ix ix_tup (pe_ix ix_tup (pv 0) (pv 7) (fun _ _ => rfl)) (pv 9) (fun _ _ => rfl)) pe_int (fun _ _ => rfl)) (pa_cons (pe_ix ix_tup (pe_ix ix_tup (pe_ix ix_tup (pv 0) (pv 8) (fun _ _ => rfl)) (pv 9) (fun _ _ => rfl)) pe_int (fun _ _ => rfl)) pa_nil))))
          (pss_one (ps_if (pt_cmp (pc_dnotin (hu_of hr) (pv 10) (pv 3)) (by rfl)) 
            (pss_cons (ps_dput (hu_of hr) (pv 3) (pv 10) pe_bl rfl)
            (pss_one (ps_expr (pe_bm PySem.F.plainAttrs_list PySem.F.slot_list_append PySem.F.type_list_append mt_append (pv 6) (pa_cons (pv 10) pa_nil))))) pss_nil))))))
      (pss_one (ps_set (i := 4) sc_law_pairs.nd rfl (.inl rfl) (pv 6)))))))
    (pss_one (ps_ret (pv 5))))), ?_⟩
    have U : ∀ k x, Lv (Sq W) (a, b) k x → x ∈ sq W.length := fun k x h => mem_sq.mpr (lv_lt ok ha hb h)
    have n7 := ok.n7
    have n49 : (sq W.length).length ≤ 49 := by rw [len_sq]; exact Nat.mul_le_mul n7 n7
    refine fun d nd => ⟨_, rfl, _, rfl, by show 2 ≤ sizeLine; decide, fun t1 nt1 => ?_⟩
    obtain ⟨nt1a, nt1d⟩ := upd_no nt1
    generalize eH2 : upd (upd H d (.dT [])) t1 (.tup [nI a, nI b]) = H2
    have s2 : Sm H H2 := by rw [← eH2]; exact (Sm.new nd).add nt1
    have d2 : H2 d = some (.dT []) := by rw [← eH2, upd_ne nt1d.symm, upd_same]
    have c2 : H2 t1 = some (.tup [nI a, nI b]) := by rw [← eH2, upd_same]
    refine ⟨_, _, rfl, d2, t1, kP (a, b), rfl, c2, ?_⟩
    generalize eH3 : upd H2 d (.dT [(kP (a, b), .bl true)]) = H3
    have s3 : Sm H H3 := by rw [← eH3]; exact s2.mut nd
    have d3 : H3 d = some (.dT [(kP (a, b), .bl true)]) := by rw [← eH3, upd_same]
    refine ⟨_, rfl, _, rfl, by show 2 ≤ sizeLine; decide, fun t2 nt2 => ⟨by show 1 ≤ sizeLine; decide, fun la nla => ⟨Nat.zero_le _, fun ll nll => ⟨_, _, _, rfl, ?_⟩⟩⟩⟩
    obtain ⟨nla2, nlt⟩ := upd_no nla
    obtain ⟨nll2, nlla⟩ := upd_no nll
    obtain ⟨nll3, nllt⟩ := upd_no nll2
    have s4 : Sm H3 (upd (upd (upd H3 t2 (.tup [nI a, nI b])) la (.lst [.ref t2])) ll (.lst [])) := ((Sm.new nt2).add nla).add nll
    have size_of : ∀ {k : Nat} {es : List ((Nat × Nat) × Nat)} {layer : List (Nat × Nat)}, Bf (Sq W) (a, b) k es layer → es.length ≤ 49 := fun {k es layer} b => by
      have z := b.size (sq W.length) U
      omega
    have nHl : H ll = none := s3.no ll nll3
    -- while last
    refine ⟨fun m σ H1 => ∃ k fs layer lvs lb lls Ls x6 x7 x8 x9 x10, σ = [some wv, some (nI a), some (nI b), some (.ref d), some (.ref lb), some (.ref ll), x6, x7, x8, x9, x10] ∧ (Bf (Sq W) (a, b) k fs layer ∧ layer.Nodup) ∧ H1 d = some (.dT (encB fs)) ∧ H1 lb = some (.lst lvs) ∧ Paired (IsP H1) lvs layer ∧ Sm H H1 ∧
      H lb = none ∧ H1 ll = some (.lst lls) ∧ Paired (fun v ps => IsL H1 v ps ∧ v ≠ .ref ll) lls Ls ∧ lb ≠ ll ∧ Ls.length = k ∧ (∀ (i : Nat) l, Ls[i]? = some l → l.Nodup ∧ ∀ x, x ∈ l ↔ Pl W a b i x) ∧ k + min layer.length 1 ≤ fs.length ∧ m = 2 * (49 - fs.length) + min layer.length 1,
      ⟨_, 0, [((a, b), 0)], [(a, b)], [.ref t2], la, [], [], none, none, none, none, none, rfl, ⟨Bf.start, List.nodup_cons.mpr ⟨by simp, List.nodup_nil⟩⟩, s4.at_ d _ rfl d3, Sm.at_ (Sm.new nll) la _ rfl upd_same, .cons ⟨t2, rfl, Tk.new nll _ _ (Tk.new nla _ _ upd_same)⟩ .nil, s3.trans s4, s3.no la nla2, upd_same, .nil, nlla.symm, rfl, fun i l e => by simp at e, by show 0 + 1 ≤ 1; omega, rfl⟩, ?_⟩
    intro m σ H1 hW1
    obtain ⟨k, fs, layer, lvs, lb, lls, Ls, x6, x7, x8, x9, x10, rfl, ⟨bf, bnd⟩, hd, hl, pl, sm, nlb, hll1, pLs, nbl, hLk, hLs, hke, em⟩ := hW1
    have hlen := pl.length
    refine ⟨_, rfl, Nat.zero_le _, fun le nle => ?_⟩
    have sme : Sm H1 (upd H1 le (.lst [])) := Sm.new nle
    refine ⟨_, _, dp_isl ⟨lb, lvs, rfl, sme.at_ lb _ rfl hl, L2.Paired.mapP pl fun _ _ z => z.mono sme.tk⟩, dp_isl (ps := []) ⟨le, [], rfl, upd_same, .nil⟩, sh_pairsL _, sh_pairsL _, ?_⟩
    rw [EqD.pair.list layer []]
    have hdn : le ≠ d := fun e => by rw [e, hd] at nle; cases nle
    have smeH : Sm H (upd H1 le (.lst [])) := sm.trans sme
    have hde := sme.at_ d _ rfl hd
    have hle := sme.at_ lb _ rfl hl
    have hlle := sme.at_ ll _ rfl hll1
    have ple : Paired (IsP (upd H1 le (.lst []))) lvs layer := L2.Paired.mapP pl fun _ _ z => z.mono sme.tk
    have pLe : Paired (fun v ps => IsL (upd H1 le (.lst [])) v ps ∧ v ≠ .ref ll) lls Ls := L2.Paired.mapP pLs fun _ _ ⟨⟨c, vs, e, h1, h2⟩, n⟩ => ⟨⟨c, vs, e, sme.at_ c _ rfl h1, L2.Paired.mapP h2 fun _ _ z => z.mono sme.tk⟩, n⟩
    generalize upd H1 le (.lst []) = He at smeH hde hle hlle ple pLe ⊢
    by_cases he : layer = []
    · rw [decide_eq_true he]
      refine ⟨_, rfl, iteF ?_⟩
      subst he
      refine ⟨_, rfl, q He ll lls Ls smeH nHl hlle (L2.Paired.mapP pLe fun _ _ z => z.1) ⟨hLs, fun i x h => ?_⟩ ?_⟩
      · rcases Nat.lt_or_ge i k with z | z
        · omega
        · exfalso
          obtain ⟨i', rfl⟩ := Nat.le.dest z
          exact Md.none (k := k) (fun x q => absurd ((bf.lay x).mpr q) (by simp)) i' x h
      · have := size_of bf
        omega
    · rw [decide_eq_false he]
      have hl0 : 0 < layer.length := List.length_pos_iff.mpr he
      refine ⟨_, rfl, iteT ⟨fun σ' H' => ∃ m' : Nat, m' < m ∧ ∃ k fs layer lvs lb lls Ls x6 x7 x8 x9 x10, σ' = [some wv, some (nI a), some (nI b), some (.ref d), some (.ref lb), some (.ref ll), x6, x7, x8, x9, x10] ∧ (Bf (Sq W) (a, b) k fs layer ∧ layer.Nodup) ∧ H' d = some (.dT (encB fs)) ∧ H' lb = some (.lst lvs) ∧ Paired (IsP H') lvs layer ∧ Sm H H' ∧
        H lb = none ∧ H' ll = some (.lst lls) ∧ Paired (fun v ps => IsL H' v ps ∧ v ≠ .ref ll) lls Ls ∧ lb ≠ ll ∧ Ls.length = k ∧ (∀ (i : Nat) l, Ls[i]? = some l → l.Nodup ∧ ∀ x, x ∈ l ↔ Pl W a b i x) ∧ k + min layer.length 1 ≤ fs.length ∧ m' = 2 * (49 - fs.length) + min layer.length 1, fun σ' H' h => h, ?_⟩⟩
      -- layers.append(last)
      have hlt := pLe.length
      have hbf := size_of bf
      refine ⟨_, rfl, .inl ⟨rfl, _, SqL.of hlle⟩, _, rfl, ll, _, _, rfl, rfl, hlle, small1000 (by omega), ?_⟩
      have ndl : d ≠ ll := fun e => by rw [e, hlle] at hde; cases hde
      generalize eHg : upd He ll (.lst (lls ++ [.ref lb])) = Hg
      have smg : Sm H Hg := by rw [← eHg]; exact smeH.mut nHl
      have sxg : Sx ll He Hg := by rw [← eHg]; exact (Sx.refl ll He).self hlle rfl
      have tkg : Tk He Hg := sxg.tk hlle (fun _ z => nomatch z)
      have hdg : Hg d = some (.dT (encB fs)) := sxg.at_ d _ ndl rfl hde
      have hlg : Hg lb = some (.lst lvs) := sxg.at_ lb _ nbl rfl hle
      have hllg : Hg ll = some (.lst (lls ++ [.ref lb])) := by rw [← eHg, upd_same]
      have plg : Paired (IsP Hg) lvs layer := L2.Paired.mapP ple fun _ _ z => z.mono tkg
      have pLg : Paired (fun v ps => IsL Hg v ps ∧ v ≠ .ref ll) (lls ++ [.ref lb]) (Ls ++ [layer]) := by
        refine PSnoc (L2.Paired.mapP pLe fun v ps h => ?_) ⟨⟨lb, lvs, rfl, hlg, plg⟩, fun z => nbl (V.ref.inj z)⟩
        obtain ⟨⟨c, vs, e, h1, h2⟩, n⟩ := h
        exact ⟨⟨c, vs, e, sxg.at_ c _ (fun z => n (by rw [e, z])) rfl h1, L2.Paired.mapP h2 fun _ _ z => z.mono tkg⟩, n⟩
      -- fresh = []
      refine ⟨Nat.zero_le _, fun lc nlc => ?_⟩
      have nc : lc ≠ d := fun e => by rw [e, hdg] at nlc; cases nlc
      have nc2 : lc ≠ lb := fun e => by rw [e, hlg] at nlc; cases nlc
      have nc3 : lc ≠ ll := fun e => by rw [e, hllg] at nlc; cases nlc
      have ndb : lb ≠ d := fun e => by rw [e, hdg] at hlg; cases hlg
      have nHc : H lc = none := smg.no lc nlc
      have sc0 : Sx d Hg (upd Hg lc (.lst [])) := (Sm.new nlc).sx d
      refine ⟨_, rfl, lb, rfl, ⟨_, SqL.of (sc0.at_ lb _ ndb rfl hlg)⟩, for_list (xs := lvs) (fun i σ2 H2 => ∃ fs2 later ltv y7 y8 y9 y10, σ2 = [some wv, some (nI a), some (nI b), some (.ref d), some (.ref lb), some (.ref ll), some (.ref lc), y7, y8, y9, y10] ∧
        Bi (Sq W) (a, b) k fs layer fs2 later (fun y => ∃ (j : Nat) (x : Nat × Nat), j < i ∧ layer[j]? = some x ∧ Sq W x y) ∧ H2 d = some (.dT (encB fs2)) ∧ H2 lc = some (.lst ltv) ∧ Paired (IsP H2) ltv later ∧ Sx d Hg H2)
        ⟨fs, [], [], x7, x8, x9, x10, rfl, (Bi.start bf).weak (fun y h => by obtain ⟨j, x, h, _⟩ := h; omega), (Sm.new nlc).at_ d _ rfl hdg, upd_same, .nil, sc0⟩
        (fun i σ2 H2 _ h => by obtain ⟨_, _, _, _, _, _, _, _, _, _, _, _, h⟩ := h; exact SqL.of (h.at_ lb _ ndb rfl hlg)) (fun i x σ2 H2 hx h => ?_) (fun σ2 H2 h => ?_)⟩
      · obtain ⟨fs2, later, ltv, y7, y8, y9, y10, rfl, bi, hd2, hc2, pt2, sx2⟩ := h
        have tk2 : Tk Hg H2 := sx2.tk hdg (fun _ z => nomatch z)
        obtain ⟨⟨u1, u2⟩, hx1, hxp⟩ := pget1 plg hx
        have hmd := (bf.lay (u1, u2)).mp (mem_of_get hx1)
        obtain ⟨hu1, hu2⟩ := lv_lt ok ha hb hmd.1
        have hal : Alike W u1 u2 := lv_alike al hmd.1
        refine r_un2 (hxp.mono tk2) ?_
        have sm2 : Sm H H2 := sx2.sm smg nd
        refine ⟨_, rfl, _, rfl, r_web (hW.mono sm2.tk) hu1 fun ds dv e1 hds => ?_⟩
        obtain ⟨dva, dvs, rfl, hdv, pds⟩ := hds
        have hdl := pds.length
        have hd4 : ds.length ≤ 4 := (ok.deg _ _ e1).2
        refine ⟨dva, dvs, rfl, .inr (SqT.of hdv), _, rfl, by show -(2 ^ 62) ≤ ((dvs.length : Nat) : Int); omega, by show ((dvs.length : Nat) : Int) < 2 ^ 62; omega, for_rg (n := dvs.length) (fun j σ3 H3 => ∃ fs3 later3 ltv3 z9 z10, σ3 = [some wv, some (nI a), some (nI b), some (.ref d), some (.ref lb), some (.ref ll), some (.ref lc), some (nI u1), some (nI u2), z9, z10] ∧
          Bi (Sq W) (a, b) k fs layer fs3 later3 (fun y => (∃ (j : Nat) (x : Nat × Nat), j < i ∧ layer[j]? = some x ∧ Sq W x y) ∨ ∃ d' b1 b2, d' < j ∧ door W u1 d' = some (y.1, b1) ∧ door W u2 d' = some (y.2, b2)) ∧ H3 d = some (.dT (encB fs3)) ∧ H3 lc = some (.lst ltv3) ∧ Paired (IsP H3) ltv3 later3 ∧ Sx d Hg H3)
          ⟨fs2, later, ltv, y9, y10, rfl, bi.weak (fun y h => by rcases h with h | ⟨_, _, _, h, _⟩; exact h; omega), hd2, hc2, pt2, sx2⟩ (fun j σ3 H3 hj h => ?_) (fun σ3 H3 h => ?_)⟩
        · obtain ⟨fs3, later3, ltv3, z9, z10, rfl, bi3, hd3, hc3, pt3, sx3⟩ := h
          have sm3 : Sm H H3 := sx3.sm smg nd
          have hdeg : j < deg W u1 := by rw [deg_at e1]; omega
          obtain ⟨⟨t1', b1⟩, ed1⟩ := door_of_lt hdeg
          obtain ⟨t2', ed2, hal2⟩ := hal.step ed1
          have hW3 := hW.mono sm3.tk
          refine ⟨_, rfl, _, rfl, r_web hW3 hu1 fun ds1 dv1 f1 hds1 => ⟨_, rfl, r_ps hds1 (by rw [← door_at f1]; exact ed1) fun pv1 hp1 => ?_⟩⟩
          obtain ⟨qa, rfl, hqa⟩ := hp1
          refine ⟨qa, _, 0, _, rfl, rfl, SqT.of hqa, rfl, ?_⟩
          refine ⟨_, rfl, _, rfl, r_web hW3 hu2 fun ds2 dv2 f2 hds2 => ⟨_, rfl, r_ps hds2 (by rw [← door_at f2]; exact ed2) fun pv2 hp2 => ?_⟩⟩
          obtain ⟨qb, rfl, hqb⟩ := hp2
          refine ⟨qb, _, 0, _, rfl, rfl, SqT.of hqb, rfl, by show 2 ≤ sizeLine; decide, fun p np => ?_⟩
          have sma : Sm H3 (upd H3 p (.tup [nI t1', nI t2'])) := Sm.new np
          have hp3 : IsP (upd H3 p (.tup [nI t1', nI t2'])) (.ref p) (t1', t2') := ⟨p, rfl, upd_same⟩
          generalize upd H3 p (.tup [nI t1', nI t2']) = Ha at sma hp3 ⊢
          have hsq : Sq W (u1, u2) (t1', t2') := ⟨j, b1, b1, ed1, ed2⟩
          have seen_step : ∀ y, ((∃ (j : Nat) (x : Nat × Nat), j < i ∧ layer[j]? = some x ∧ Sq W x y) ∨ ∃ d' b1 b2, d' < j + 1 ∧ door W u1 d' = some (y.1, b1) ∧ door W u2 d' = some (y.2, b2)) → ((∃ (j : Nat) (x : Nat × Nat), j < i ∧ layer[j]? = some x ∧ Sq W x y) ∨ ∃ d' b1 b2, d' < j ∧ door W u1 d' = some (y.1, b1) ∧ door W u2 d' = some (y.2, b2)) ∨ y = (t1', t2') := by
            intro y h
            rcases h with h | ⟨d', c1, c2, h, g1, g2⟩
            · exact .inl (.inl h)
            · by_cases c : d' = j
              · subst c
                rw [ed1] at g1
                rw [ed2] at g2
                have g1' := Option.some.inj g1
                have g2' := Option.some.inj g2
                exact .inr (Prod.ext (congrArg Prod.fst g1').symm (congrArg Prod.fst g2').symm)
              · exact .inl (.inr ⟨d', c1, c2, by omega, g1, g2⟩)
          have hda := sma.at_ d _ rfl hd3
          have hca := sma.at_ lc _ rfl hc3
          refine ⟨_, rfl, _, rfl, d, _, rfl, DGet.p hda hp3, _, rfl, ?_⟩
          by_cases hm : (t1', t2') ∈ fs3.map Prod.fst
          · rw [encB_some bi3.nd hm]
            refine iteF ?_
            exact ⟨fs3, later3, ltv3, _, _, rfl, (bi3.old hm).weak seen_step, hda, hca, L2.Paired.mapP pt3 fun _ _ z => z.mono sma.tk, sx3.trans (sma.sx d)⟩
          · rw [encB_none hm]
            refine iteT ?_
            have hlen : fs3.length ≤ 49 := by
              have z := bi3.size (sq W.length) U
              omega
            refine ⟨_, rfl, _, rfl, d, _, rfl, DPut.p hda hp3 (by unfold encB; rw [List.length_map]; exact small1000 (by omega)), ?_⟩
            rw [putK_new _ (encB_none hm)]
            have ee : encB fs3 ++ [(kP (t1', t2'), .bl true)] = encB (fs3 ++ [((t1', t2'), k + 1)]) := by unfold encB; rw [List.map_append]; rfl
            rw [ee]
            generalize eH5 : upd Ha d (.dT (encB (fs3 ++ [((t1', t2'), k + 1)]))) = H5
            have t5 : Tk Ha H5 := by rw [← eH5]; exact Tk.dT hda
            have hc5 : H5 lc = some (.lst ltv3) := by rw [← eH5, upd_ne nc]; exact hca
            have hd5 : H5 d = some (.dT (encB (fs3 ++ [((t1', t2'), k + 1)]))) := by rw [← eH5, upd_same]
            have s5 : Sx d Hg H5 := by rw [← eH5]; exact (sx3.trans (sma.sx d)).self hda rfl
            have lt3 := pt3.length
            have l3 : later3.length ≤ 49 := by
              have z := congrArg List.length bi3.eq
              rw [List.length_append, List.length_map] at z
              omega
            refine ⟨_, rfl, .inl ⟨rfl, _, SqL.of hc5⟩, _, rfl, lc, _, _, rfl, rfl, hc5, small1000 (by omega), ?_⟩
            have t6 : Tk Ha (upd H5 lc (.lst (ltv3 ++ [.ref p]))) := t5.trans (Tk.lst hc5)
            refine ⟨fs3 ++ [((t1', t2'), k + 1)], later3 ++ [(t1', t2')], ltv3 ++ [.ref p], _, _, rfl, (bi3.new (mem_of_get hx1) hsq hm).weak seen_step, ?_, upd_same, PSnoc (L2.Paired.mapP pt3 fun _ _ z => z.mono (sma.tk.trans t6)) (hp3.mono t6), s5.mut nlc⟩
            rw [upd_ne nc.symm]; exact hd5
        · obtain ⟨fs3, later3, ltv3, z9, z10, rfl, bi3, hd3, hc3, pt3, sx3⟩ := h
          refine ⟨fs3, later3, ltv3, _, _, _, _, rfl, bi3.weak ?_, hd3, hc3, pt3, sx3⟩
          intro y ⟨j, x, hj, hx9, d', c1, c2, hS1, hS2⟩
          by_cases c : j = i
          · rw [c, hx1] at hx9
            have hxe : x = (u1, u2) := (Option.some.inj hx9).symm
            rw [hxe] at hS1 hS2
            have hlt := (door_lt hS1).2
            rw [deg_at e1] at hlt
            exact .inr ⟨d', c1, c2, by omega, hS1, hS2⟩
          · exact .inl ⟨j, x, by omega, hx9, d', c1, c2, hS1, hS2⟩
      · obtain ⟨fs2, later, ltv, y7, y8, y9, y10, rfl, bi, hd2, hc2, pt2, sx2⟩ := h
        have tk2 : Tk Hg H2 := sx2.tk hdg (fun _ z => nomatch z)
        have bf2 : Bf (Sq W) (a, b) (k + 1) fs2 later := bi.done fun x y hx hS => by
          obtain ⟨j, hj, e⟩ := get_of_mem hx
          exact ⟨j, x, by omega, e, hS⟩
        have z6 : fs2.length = fs.length + later.length := by
          have z := congrArg List.length bi.eq
          rwa [List.length_append, List.length_map] at z
        have z2 := size_of bf2
        have lnd : later.Nodup := by
          have z := bi.nd
          rw [bi.eq, List.map_append, List.map_map] at z
          have z3 := (List.nodup_append.mp z).2.1
          rwa [show ((later.map (Prod.fst ∘ fun y => (y, k + 1))) = later) from List.map_id' later] at z3
        refine ⟨_, rfl, _, ?_, k + 1, fs2, later, ltv, lc, lls ++ [.ref lb], Ls ++ [layer], _, _, _, _, _, rfl, ⟨bf2, lnd⟩, hd2, hc2, pt2, sx2.sm smg nd, nHc, sx2.at_ ll _ ndl.symm rfl hllg, ?_, nc3, ?_, ?_, ?_, rfl⟩
        · omega
        · refine L2.Paired.mapP pLg fun v ps h => ?_
          obtain ⟨⟨c, vs, e, h1, h2⟩, n⟩ := h
          exact ⟨⟨c, vs, e, sx2.at_ c _ (fun z => by rw [z, hdg] at h1; cases h1) rfl h1, L2.Paired.mapP h2 fun _ _ z => z.mono tk2⟩, n⟩
        · rw [List.length_append, hLk]; rfl
        · intro i l e
          by_cases c : i < Ls.length
          · rw [List.getElem?_append_left c] at e
            exact hLs i l e
          · rw [List.getElem?_append_right (by omega)] at e
            have hi : i = k := by
              have z := lt_of_get e
              simp at z
              omega
            subst hi
            rw [hLk, Nat.sub_self] at e
            rw [← Option.some.inj e]
            exact ⟨bnd, bf.lay⟩
        · omega
end
end K2
namespace K2
open PySem PySem.Spec PyProof.Rows L2
abbrev st_rooms_from : Stmt := topS 15
theorem sc_rooms_from : FnScope ["web", "room", "found", "layer", "later", "here", "there", "_"] ["web", "room"] (C8.fnScope st_rooms_from) := C8.fnScope_by (by decide +kernel)
-- slots: web=0 room=1 found=2 layer=3 later=4 here=5 there=6 _=7

section
variable {P : Program} {w : World} {K : PySem.W.Frag} {mg : Str → Option Value} {base : Heap}
def encR (fs : List (Nat × Nat)) : List (Key × V) := fs.map fun q => (Sum.inl (q.1 : Int), nI q.2)
def spRoomsFrom : Sp := fun vs H Q _ => ∃ (wv : V) (r : Nat) (W : Web), vs = [wv, nI r] ∧ IsW H wv W ∧ Ok W ∧ r < W.length ∧
  ∀ H' p fs, Sm H H' → H p = none → H' p = some (.dK (encR fs)) → (fs.map Prod.fst).Nodup → (∀ x j, (x, j) ∈ fs ↔ Ds W r x j) → Q (.ref p) H'
theorem cal_rooms_from {f : Addr} {fd : FuncData} (F : C8.Def K mg "rooms_from" st_rooms_from f fd) (b : Binds K fd ["web", "room"] []) (G : Glob mg) : C8.Cal P w K mg base 1 "rooms_from" spRoomsFrom [] := by
  refine C8.cal0 (k := 0) F b .nil sc_rooms_from (fun vs H Q E h => ?_) (fun cdv A outer s H vs Q E hr h => ?_)
  · obtain ⟨_, _, _, rfl, _⟩ := h
    rfl
  · obtain ⟨wv, r, W, rfl, hW, ok, hrl, q⟩ := h
    refine ⟨_, (pss_cons (ps_par (i := 2) (j := 3) (by rfl) sc_rooms_from.nd rfl rfl (by decide) rfl rfl (pa_cons (pe_disp (pps_cons (pv 1) pe_int pps_nil) (by rfl) (by rfl) (by intro z; cases z) (by decide)) (pa_cons (pe_lst (pa_cons (pv 1) pa_nil)) pa_nil)) (by rfl))
    (pss_cons (ps_while PassesOwn.never (pt_truth (pv 3) (by intro _; rfl)) 
      (pss_cons (ps_set (i := 4) sc_rooms_from.nd rfl (.inl rfl) (pe_lst pa_nil))
      (pss_cons (ps_for PassesOwn.never rfl (pi_list (pv 3)) (pg_name (i := 5) sc_rooms_from.nd rfl (.inl rfl)) 
        (pss_one (ps_for PassesOwn.never rfl (pi_tup (pe_ix ix_tup (pv 0) (pv 5) (fun _ _ => rfl))) (pg_tup rfl (pgs_cons (pg_name (i := 6) sc_rooms_from.nd rfl (.inl rfl)) (pgs_cons (pg_name (i := 7) sc_rooms_from.nd rfl (.inl rfl)) pgs_nil))) 
          (pss_one (ps_if (pt_cmp (pc_dnotin (hu_of hr) (pv 6) (pv 2)) (by rfl)) 
            (pss_cons (ps_dput (hu_of hr) (pv 2) (pv 6) (pe_op op_add (pe_dget (hu_of hr) (pv 2) (pv 5) (fun _ _ => rfl)) pe_int) rfl)
            (pss_one (ps_expr (pe_bm PySem.F.plainAttrs_list PySem.F.slot_list_append PySem.F.type_list_append mt_append (pv 4) (pa_cons (pv 6) pa_nil))))) pss_nil)))))
      (pss_one (ps_set (i := 3) sc_rooms_from.nd rfl (.inl rfl) (pv 4))))))
    (pss_one (ps_ret (pv 2))))), ?_⟩
    -- found, layer = {room: 0}, [room]
    refine fun d nd => ⟨_, rfl, upd_same, [(Sum.inl (r : Int), .int 0)], rfl, by show 1 ≤ 15; decide, ?_⟩
    refine ⟨_, rfl, by show 1 ≤ sizeLine; decide, fun la nla => ⟨_, _, rfl, ?_⟩⟩
    obtain ⟨nla1, nld⟩ := upd_no nla
    obtain ⟨nla2, _⟩ := upd_no nla1
    have lt_of : ∀ {k x : Nat}, Md (Sr W) r k x → x < W.length := fun h => by
      obtain ⟨row, _, g⟩ := lv_go.mp h.1
      exact go_lt ok row _ _ hrl g
    have size_of : ∀ {k : Nat} {fs : List (Nat × Nat)} {layer : List Nat}, Bf (Sr W) r k fs layer → fs.length ≤ W.length := fun b => by
      have z := b.size (List.range W.length) fun k x h => by
        obtain ⟨row, _, g⟩ := lv_go.mp h
        exact List.mem_range.mpr (go_lt ok row _ _ hrl g)
      rwa [List.length_range] at z
    -- while layer
    refine ⟨fun m σ H1 => ∃ k fs layer lb x4 x5 x6 x7, σ = [some wv, some (nI r), some (.ref d), some (.ref lb), x4, x5, x6, x7] ∧ Bf (Sr W) r k fs layer ∧ H1 d = some (.dK (encR fs)) ∧ H1 lb = some (.lst (layer.map nI)) ∧ Sm H H1 ∧
      H lb = none ∧ m = 2 * (W.length - fs.length) + min layer.length 1, ⟨_, 0, [(r, 0)], [r], la, none, none, none, none, rfl, Bf.start, ?_, ?_, ?_, nla2, rfl⟩, ?_⟩
    · rw [upd_ne nld.symm, upd_same]; rfl
    · rw [upd_same]; rfl
    · exact ((Sm.new nd).mut nd).mut nla2
    intro m σ H1 hW1
    obtain ⟨k, fs, layer, lb, x4, x5, x6, x7, rfl, bf, hd, hl, sm, nlb, em⟩ := hW1
    refine ⟨_, rfl, !(layer.map nI).isEmpty, .inl ⟨_, SqL.of hl, rfl⟩, ?_⟩
    by_cases he : layer = []
    · subst he
      refine iteF ?_
      exact ⟨_, rfl, q H1 d fs sm nd hd bf.nd bf.fin⟩
    · rw [show (!(layer.map nI).isEmpty) = true by cases layer with
        | nil => exact absurd rfl he
        | cons => rfl]
      refine iteT ⟨fun σ' H' => ∃ m' : Nat, m' < m ∧ ∃ k fs layer lb x4 x5 x6 x7, σ' = [some wv, some (nI r), some (.ref d), some (.ref lb), x4, x5, x6, x7] ∧ Bf (Sr W) r k fs layer ∧ H' d = some (.dK (encR fs)) ∧ H' lb = some (.lst (layer.map nI)) ∧ Sm H H' ∧
        H lb = none ∧ m' = 2 * (W.length - fs.length) + min layer.length 1, fun σ' H' h => h, ?_⟩
      -- later = []
      refine ⟨Nat.zero_le _, fun lc nlc => ?_⟩
      have nc : lc ≠ d := fun e => by rw [e, hd] at nlc; cases nlc
      have nc2 : lc ≠ lb := fun e => by rw [e, hl] at nlc; cases nlc
      have ndb : lb ≠ d := fun e => by rw [e, hd] at hl; cases hl
      have nHc : H lc = none := sm.no lc nlc
      -- for here in layer
      refine ⟨_, rfl, lb, rfl, ⟨_, SqL.of (by rw [upd_ne nc2.symm]; exact hl)⟩, for_list (xs := layer.map nI) (fun i σ2 H2 => ∃ fs2 later y5 y6 y7, σ2 = [some wv, some (nI r), some (.ref d), some (.ref lb), some (.ref lc), y5, y6, y7] ∧
        Bi (Sr W) r k fs layer fs2 later (fun y => ∃ (j x : Nat), j < i ∧ layer[j]? = some x ∧ Sr W x y) ∧ H2 d = some (.dK (encR fs2)) ∧ H2 lb = some (.lst (layer.map nI)) ∧ H2 lc = some (.lst (later.map nI)) ∧ Sm H H2)
        ⟨fs, [], x5, x6, x7, rfl, (Bi.start bf).weak (fun y h => by obtain ⟨j, x, h, _⟩ := h; omega), ?_, ?_, upd_same, sm.mut nHc⟩
        (fun i σ2 H2 _ h => by obtain ⟨_, _, _, _, _, _, _, _, h, _⟩ := h; exact SqL.of h) (fun i x σ2 H2 hx h => ?_) (fun σ2 H2 h => ?_)⟩
      · rw [upd_ne nc.symm]; exact hd
      · rw [upd_ne nc2.symm]; exact hl
      · -- a turn: for there, _ in web[here]
        obtain ⟨fs2, later, y5, y6, y7, rfl, bi, hd2, hl2, hc2, sm2⟩ := h
        rw [List.getElem?_map] at hx
        obtain ⟨hn, hx1, hx2⟩ : ∃ hn, layer[i]? = some hn ∧ x = nI hn := by
          cases e : layer[i]? with
          | none => rw [e] at hx; cases hx
          | some hn => rw [e] at hx; exact ⟨hn, rfl, (Option.some.inj hx).symm⟩
        subst hx2
        have hmd := (bf.lay hn).mp (mem_of_get hx1)
        refine ⟨_, rfl, _, rfl, r_web (hW.mono sm2.tk) (lt_of hmd) fun ds dv eds hds => ?_⟩
        obtain ⟨dva, dvs, rfl, hdv, pds⟩ := hds
        refine ⟨dva, rfl, ⟨_, SqT.of hdv⟩, for_tup (xs := dvs) (fun j σ3 H3 => ∃ fs3 later3 z6 z7, σ3 = [some wv, some (nI r), some (.ref d), some (.ref lb), some (.ref lc), some (nI hn), z6, z7] ∧
          Bi (Sr W) r k fs layer fs3 later3 (fun y => (∃ (j x : Nat), j < i ∧ layer[j]? = some x ∧ Sr W x y) ∨ ∃ d' bk, d' < j ∧ ds[d']? = some (y, bk)) ∧ H3 d = some (.dK (encR fs3)) ∧ H3 lb = some (.lst (layer.map nI)) ∧ H3 lc = some (.lst (later3.map nI)) ∧ Sm H H3 ∧ Tk H2 H3)
          ⟨fs2, later, y6, y7, rfl, bi.weak (fun y h => by rcases h with h | ⟨_, _, h, _⟩; exact h; omega), hd2, hl2, hc2, sm2, Tk.refl _⟩ (fun j σ3 H3 _ h => by obtain ⟨_, _, _, _, _, _, _, _, _, _, tk⟩ := h; exact SqT.of (tk _ _ hdv)) (fun j x σ3 H3 hx h => ?_) (fun σ3 H3 h => ?_)⟩
        · obtain ⟨fs3, later3, z6, z7, rfl, bi3, hd3, hl3, hc3, sm3, tk3⟩ := h
          obtain ⟨⟨t, bk⟩, ep, hp⟩ := pget1 pds hx
          have hdoor : door W hn j = some (t, bk) := by rw [door_at eds]; exact ep
          refine r_un2 (hp.mono tk3) ?_
          -- if there not in found
          refine ⟨_, rfl, _, rfl, d, _, rfl, DGet.k (k := Sum.inl (t : Int)) hd3, _, rfl, ?_⟩
          by_cases hm : t ∈ fs3.map Prod.fst
          · obtain ⟨⟨t', jj⟩, hm1, hm2⟩ := List.mem_map.mp hm
            have hm3 : t' = t := hm2
            subst hm3
            rw [show valV (encR fs3) (Sum.inl (t' : Int)) = some (nI jj) from val_some (f := fun x : Nat => (Sum.inl (x : Int) : Key)) inlN_inj bi3.nd hm1]
            refine iteF ?_
            refine ⟨fs3, later3, _, _, rfl, (bi3.old hm).weak ?_, hd3, hl3, hc3, sm3, tk3⟩
            intro y h
            rcases h with h | ⟨d', b', h, e⟩
            · exact .inl (.inl h)
            · by_cases c : d' = j
              · subst c
                rw [ep] at e
                cases e
                exact .inr rfl
              · exact .inl (.inr ⟨d', b', by omega, e⟩)
          · rw [show valV (encR fs3) (Sum.inl (t : Int)) = none from val_none (f := fun x : Nat => (Sum.inl (x : Int) : Key)) inlN_inj hm]
            refine iteT ?_
            have hin : (hn, k) ∈ fs3 := by rw [bi3.eq]; exact List.mem_append_left _ ((bf.mem hn k).mpr ⟨Nat.le_refl _, hmd⟩)
            -- found[there] = found[here] + 1
            refine ⟨_, rfl, _, rfl, d, nI k, rfl, ?_, k, 1, rfl, rfl, _, rfl, _, rfl, d, _, rfl, DPut.k (k := Sum.inl (t : Int)) hd3 ?_, ?_⟩
            · have := DGet.k (k := Sum.inl (hn : Int)) hd3
              rwa [show valV (encR fs3) (Sum.inl (hn : Int)) = some (nI k) from val_some (f := fun x : Nat => (Sum.inl (x : Int) : Key)) inlN_inj bi3.nd hin] at this
            · show (encR fs3).length < sizeLine
              have z := bi3.size (List.range W.length) fun k x h => by
                obtain ⟨row, _, g⟩ := lv_go.mp h
                exact List.mem_range.mpr (go_lt ok row _ _ hrl g)
              rw [List.length_range] at z
              have n7 := ok.n7
              unfold encR
              rw [List.length_map]
              exact small1000 (by omega)
            · -- later.append(there)
              have ep2 : putK (encR fs3) (Sum.inl (t : Int)) (nI (k + 1)) = encR (fs3 ++ [(t, k + 1)]) := by
                rw [putK_new _ (show valV (encR fs3) (Sum.inl (t : Int)) = none from val_none (f := fun x : Nat => (Sum.inl (x : Int) : Key)) inlN_inj hm)]
                unfold encR
                rw [List.map_append]; rfl
              have hc4 : (upd H3 d (.dK (putK (encR fs3) (Sum.inl (t : Int)) (nI (k + 1))))) lc = some (.lst (later3.map nI)) := by rw [upd_ne nc]; exact hc3
              refine ⟨_, rfl, .inl ⟨rfl, _, SqL.of hc4⟩, _, rfl, lc, _, _, rfl, rfl, hc4, ?_, ?_⟩
              · rw [List.length_map]
                have z := bi3.size (List.range W.length) fun k x h => by
                  obtain ⟨row, _, g⟩ := lv_go.mp h
                  exact List.mem_range.mpr (go_lt ok row _ _ hrl g)
                rw [bi3.eq, List.length_append, List.length_map, List.length_range] at z
                have n7 := ok.n7
                exact small1000 (by omega)
              · refine ⟨fs3 ++ [(t, k + 1)], later3 ++ [t], _, _, rfl, (bi3.new (mem_of_get hx1) ⟨j, bk, hdoor⟩ hm).weak ?_, ?_, ?_, ?_, ?_, ?_⟩
                · intro y h
                  rcases h with h | ⟨d', b', h, e⟩
                  · exact .inl (.inl h)
                  · by_cases c : d' = j
                    · subst c
                      rw [ep] at e
                      cases e
                      exact .inr rfl
                    · exact .inl (.inr ⟨d', b', by omega, e⟩)
                · rw [upd_ne nc.symm, upd_same]; exact congrArg (fun z => some (HO.dK z)) ep2
                · rw [upd_ne nc2.symm, upd_ne ndb]; exact hl3
                · rw [upd_same, List.map_append]; rfl
                · exact (sm3.mut nd).mut nHc
                · exact (tk3.trans (Tk.dK hd3)).trans (Tk.lst hc4)
        · -- behind the doors of one room
          obtain ⟨fs3, later3, z6, z7, rfl, bi3, hd3, hl3, hc3, sm3, tk3⟩ := h
          refine ⟨fs3, later3, _, _, _, rfl, bi3.weak ?_, hd3, hl3, hc3, sm3⟩
          intro y ⟨j, x, hj, hx9, d', bk', hS⟩
          by_cases c : j = i
          · rw [c, hx1] at hx9
            have hxe : x = hn := (Option.some.inj hx9).symm
            rw [hxe] at hS
            rw [door_at eds] at hS
            exact .inr ⟨d', bk', by rw [pds.length]; exact lt_of_get hS, hS⟩
          · exact .inl ⟨j, x, by omega, hx9, d', bk', hS⟩
      · -- layer = later
        obtain ⟨fs2, later, y5, y6, y7, rfl, bi, hd2, hl2, hc2, sm2⟩ := h
        have bf2 : Bf (Sr W) r (k + 1) fs2 later := bi.done fun x y hx hS => by
          obtain ⟨j, hj, e⟩ := get_of_mem hx
          exact ⟨j, x, by rw [List.length_map]; exact hj, e, hS⟩
        refine ⟨_, rfl, _, ?_, k + 1, fs2, later, lc, _, _, _, _, rfl, bf2, hd2, hc2, sm2, nHc, rfl⟩
        have z1 := size_of bf
        have z2 := size_of bf2
        have z3 : fs2.length = fs.length + later.length := by rw [bi.eq, List.length_append, List.length_map]
        have z4 : 0 < layer.length := List.length_pos_iff.mpr he
        omega
end
end K2
namespace K2
open PySem PySem.Spec PyProof.Rows L2
abbrev st_law_near : Stmt := topS 53
theorem sc_law_near : FnScope ["_law_web_here", "_law_one", "_law_other", "_law_found", "_law_length", "_law_pairs_here", "_law_mine", "_law_its", "_law_far_here"] ["_law_web_here", "_law_one", "_law_other"] (C8.fnScope st_law_near) := C8.fnScope_by (by decide +kernel)
-- slots: _law_web_here=0 _law_one=1 _law_other=2 _law_found=3 _law_length=4 _law_pairs_here=5 _law_mine=6 _law_its=7 _law_far_here=8

abbrev PL2 := (Nat × Nat) × Nat
def fl (Ls : List (List (Nat × Nat))) (i : Nat) : List PL2 := (List.range i).flatMap fun k => (Ls.getD k []).map fun p => (p, k)
theorem fl_succ (Ls : List (List (Nat × Nat))) (i : Nat) : fl Ls (i + 1) = fl Ls i ++ (Ls.getD i []).map fun p => (p, i) := by
  unfold fl
  rw [List.range_succ, List.flatMap_append]
  simp
theorem mem_fl {Ls : List (List (Nat × Nat))} {i : Nat} {e : PL2} : e ∈ fl Ls i ↔ e.2 < i ∧ e.1 ∈ Ls.getD e.2 [] := by
  unfold fl
  rw [List.mem_flatMap]
  constructor
  · rintro ⟨k, hk, h⟩
    obtain ⟨p, hp, rfl⟩ := List.mem_map.mp h
    exact ⟨List.mem_range.mp hk, hp⟩
  · rintro ⟨h1, h2⟩
    exact ⟨e.2, List.mem_range.mpr h1, List.mem_map.mpr ⟨e.1, h2, rfl⟩⟩
/-- near, as told by the law -/
structure LN (H : Hp) (W : Web) (a b : Nat) (p : Addr) (ks : List (Nat × Nat)) : Prop where
  at_ : H p = some (.dK (encR ks))
  nd : (ks.map Prod.fst).Nodup
  nr : ∀ k j, (k, j) ∈ ks → Nr W a b k j
  keys : ∀ k, k ∈ ks.map Prod.fst ↔ ∃ p, Rp W a b p ∧ pd W p = k
section
variable {P : Program} {w : World} {K : PySem.W.Frag} {mg : Str → Option Value} {base : Heap}
def spLNear : Sp := fun vs H Q _ => ∃ (wv : V) (W : Web) (a b : Nat), vs = [wv, nI a, nI b] ∧ IsW H wv W ∧ Ok W ∧ a < W.length ∧ b < W.length ∧ Alike W a b ∧ ∀ H' p ks, Sm H H' → H p = none → LN H' W a b p ks → Q (.ref p) H'
theorem cal_law_near {f : Addr} {fd : FuncData} (F : C8.Def K mg "_law_near" st_law_near f fd) (b : Binds K fd ["_law_web_here", "_law_one", "_law_other"] []) (G : Glob mg) (c_law_pairs : C8.Cal P w K mg base 1 "_law_pairs" spLPairs []) (c_law_far : C8.Cal P w K mg base 1 "_law_far" spLFar []) : C8.Cal P w K mg base 2 "_law_near" spLNear [] := by
  refine C8.cal0 (k := 1) F b .nil sc_law_near (fun vs H Q E h => ?_) (fun cdv A outer s H vs Q E hr h => ?_)
  · obtain ⟨_, _, _, _, rfl, _⟩ := h
    rfl
  · obtain ⟨wv, W, a, b, rfl, hW, ok, ha, hb, al, q⟩ := h
    refine ⟨_, (pss_cons (ps_set (i := 3) sc_law_near.nd rfl (.inl rfl) pe_dnewK)
    (pss_cons (ps_for PassesOwn.never rfl (pi_enum (by rfl) G.enumerate (pa_cons (C8.pe_c c_law_pairs hr (by decide) (by rfl) (pa_cons (pv 0) (pa_cons (pv 1) (pa_cons (pv 2) pa_nil)))) pa_nil)) (pg_tup rfl (pgs_cons (pg_name (i := 4) sc_law_near.nd rfl (.inl rfl)) (pgs_cons (pg_name (i := 5) sc_law_near.nd rfl (.inl rfl)) pgs_nil))) 
      (pss_one (ps_for PassesOwn.never rfl (pi_list (pv 5)) (pg_tup rfl (pgs_cons (pg_name (i := 6) sc_law_near.nd rfl (.inl rfl)) (pgs_cons (pg_name (i := 7) sc_law_near.nd rfl (.inl rfl)) pgs_nil))) 
        (pss_cons (ps_set (i := 8) sc_law_near.nd rfl (.inl rfl) (C8.pe_c c_law_far hr (by decide) (by rfl) (pa_cons (pv 0) (pa_cons (pv 6) (pa_cons (pv 7) pa_nil)))))
        (pss_one (ps_if (pt_cmp (pc_dnotin (hu_of hr) (pv 8) (pv 3)) (by rfl)) 
          (pss_one (ps_dput (hu_of hr) (pv 3) (pv 8) (pv 4) rfl)) pss_nil))))))
    (pss_one (ps_ret (pv 3))))), ?_⟩
    refine fun d nd => ?_
    have s1 : Sm H (upd H d (.dK [])) := Sm.new nd
    have d1 : upd H d (.dK []) d = some (.dK (encR [])) := upd_same
    generalize upd H d (.dK []) = H1 at s1 d1 ⊢
    refine ⟨_, rfl, _, rfl, _, rfl, wv, W, a, b, rfl, hW.mono s1.tk, ok, ha, hb, al, fun H2 pl lls Ls s2 np hp hLs lay hL50 => ?_⟩
    have hlen := hLs.length
    have hgetD : ∀ (k : Nat) l, Ls[k]? = some l → Ls.getD k [] = l := fun k l e => by rw [List.getD_eq_getElem?_getD, e]; rfl
    have hpl : ∀ e : PL2, e.1 ∈ Ls.getD e.2 [] → Pl W a b e.2 e.1 := fun e h => by
      cases g : Ls[e.2]? with
      | none => rw [List.getD_eq_getElem?_getD, g] at h; cases h
      | some l =>
        rw [hgetD _ l g] at h
        exact ((lay.lay _ l g).2 e.1).mp h
    have hrp : ∀ e : PL2, e.1 ∈ Ls.getD e.2 [] → e.1.1 < W.length ∧ e.1.2 < W.length := fun e h => lv_lt ok ha hb (hpl e h).1
    -- how many keys there can be: the distances are below 7
    have small : ∀ (pre : List PL2) (ns : List (Nat × PL2)), Nb (fun e : PL2 => pd W e.1) (fun e => e.2) pre ns → (∀ e ∈ pre, e.1.1 < W.length ∧ e.1.2 < W.length) → ns.length ≤ 49 := fun pre ns nb hx => by
      have n7 := ok.n7
      have n49 : (sq W.length).length ≤ 49 := by rw [len_sq]; exact Nat.mul_le_mul n7 n7
      have z := nd_le (ns.map Prod.fst) ((sq W.length).map (pd W)) nb.nd fun k hk => by
        obtain ⟨⟨k', e⟩, h1, h2⟩ := List.mem_map.mp hk
        obtain ⟨h3, h4, _⟩ := nb.at_ k' e h1
        have h5 : k' = k := h2
        exact List.mem_map.mpr ⟨e.1, mem_sq.mpr (hx e h3), by rw [← h5]; exact h4⟩
      rw [List.length_map, List.length_map] at z
      omega
    have enc : ∀ ns : List (Nat × PL2), List (Nat × Nat) := fun ns => ns.map fun q => (q.1, q.2.2)
    have d2 := s2.at_ d _ rfl d1
    have hdp : d ≠ pl := fun z => by rw [← z, d1] at np; cases np
    have s12 := s1.trans s2
    refine ⟨pl, lls, rfl, .inl (.inl hp), for_it (walk_enum (xs := lls)) (fun i σ3 H3 => ∃ (ns : List (Nat × PL2)) (z4 z5 z6 z7 z8 : Option V), σ3 = [some wv, some (nI a), some (nI b), some (.ref d), z4, z5, z6, z7, z8] ∧ Nb (fun e : PL2 => pd W e.1) (fun e => e.2) (fl Ls i) ns ∧ H3 d = some (.dK (encR (ns.map fun q => (q.1, q.2.2)))) ∧ Sx d H2 H3)
      ⟨[], none, none, none, none, none, rfl, Nb.nil, d2, Sx.refl d H2⟩ (fun i σ3 H3 _ h => by obtain ⟨_, _, _, _, _, _, _, _, _, h⟩ := h; exact SqL.of (h.at_ pl _ hdp.symm rfl hp)) (fun i x σ3 H3 H' hi h hY => ?_) (fun σ3 H3 h => ?_)⟩
    · obtain ⟨ns, z4, z5, z6, z7, z8, rfl, nb, d3, s3⟩ := h
      obtain ⟨T, x1, x2, rfl, nT, rfl, e1, e2⟩ := hY
      obtain rfl := Option.some.inj e1
      obtain ⟨l, el, lv, lvs, rfl, hlv, plv⟩ := pget1 hLs e2
      refine r_un2v upd_same ?_
      have s4 : Sx d H2 (upd H3 T (.tup [nI i, .ref lv])) := s3.add nT
      have d4 := (Sm.new (o := .tup [nI i, .ref lv]) nT).at_ d _ rfl d3
      generalize upd H3 T (.tup [nI i, .ref lv]) = H4 at s4 d4 ⊢
      have hdl : lv ≠ d := fun z => by rw [z, d2] at hlv; cases hlv
      have tk2 : ∀ H', Sx d H2 H' → Tk H2 H' := fun H' s => s.tk d2 (fun _ z => nomatch z)
      have gl := hgetD i l el
      refine ⟨_, rfl, lv, rfl, ⟨_, SqL.of (s4.at_ lv _ hdl rfl hlv)⟩, for_list (xs := lvs) (fun j σ5 H5 => ∃ (ns : List (Nat × PL2)) (z6 z7 z8 : Option V), σ5 = [some wv, some (nI a), some (nI b), some (.ref d), some (nI i), some (.ref lv), z6, z7, z8] ∧ Nb (fun e : PL2 => pd W e.1) (fun e => e.2) (fl Ls i ++ (l.take j).map fun p => (p, i)) ns ∧ H5 d = some (.dK (encR (ns.map fun q => (q.1, q.2.2)))) ∧ Sx d H2 H5)
        ⟨ns, _, _, _, rfl, by simpa using nb, d4, s4⟩ (fun j σ5 H5 _ h => by obtain ⟨_, _, _, _, _, _, _, h⟩ := h; exact SqL.of (h.at_ lv _ hdl rfl hlv)) (fun j x σ5 H5 hx h => ?_) (fun σ5 H5 h => ?_)⟩
      · obtain ⟨ns5, y6, y7, y8, rfl, nb5, d5, s5⟩ := h
        obtain ⟨⟨u1, u2⟩, eu, hu⟩ := pget1 plv hx
        refine r_un2 (hu.mono (tk2 _ s5)) ?_
        have hmem : (u1, u2) ∈ Ls.getD i [] := by rw [gl]; exact mem_of_get eu
        obtain ⟨h1, h2⟩ := hrp ((u1, u2), i) hmem
        refine ⟨_, rfl, _, rfl, _, rfl, wv, W, u1, u2, rfl, hW.mono (s5.sm s12 nd).tk, ok, h1, h2, fun H6 s6 => ?_⟩
        have d6 := s6.at_ d _ rfl d5
        have tk1 : (l.take (j + 1)).map (fun p : Nat × Nat => (p, i)) = (l.take j).map (fun p => (p, i)) ++ [((u1, u2), i)] := by rw [List.take_add_one, eu, List.map_append]; rfl
        have ho : ∀ e', e' ∈ fl Ls i ++ (l.take j).map (fun p : Nat × Nat => (p, i)) → e'.2 ≤ i := fun e' he => by
          rcases List.mem_append.mp he with h | h
          · exact Nat.le_of_lt (mem_fl.mp h).1
          · obtain ⟨p, _, rfl⟩ := List.mem_map.mp h
            exact Nat.le_refl _
        refine ⟨_, rfl, _, rfl, d, _, rfl, DGet.k (k := Sum.inl (dist W u1 u2 : Int)) d6, _, rfl, ?_⟩
        have ndk : ((ns5.map fun q => (q.1, q.2.2)).map Prod.fst) = ns5.map Prod.fst := by rw [List.map_map]; rfl
        by_cases hin : dist W u1 u2 ∈ ns5.map Prod.fst
        · obtain ⟨⟨k, e⟩, h3, h4⟩ := List.mem_map.mp hin
          have h5 : k = dist W u1 u2 := h4
          subst h5
          rw [show valV (encR (ns5.map fun q => (q.1, q.2.2))) (Sum.inl (dist W u1 u2 : Int)) = some (nI e.2) from val_some (f := fun x : Nat => (Sum.inl (x : Int) : Key)) inlN_inj (g := fun j : Nat => nI j) (by rw [ndk]; exact nb5.nd) (List.mem_map.mpr ⟨_, h3, rfl⟩)]
          refine iteF ⟨ns5, _, _, _, rfl, ?_, d6, s5.trans (s6.sx d)⟩
          rw [tk1, ← List.append_assoc]
          exact nb5.old (e := ((u1, u2), i)) ho hin
        · have hvn : valV (encR (ns5.map fun q => (q.1, q.2.2))) (Sum.inl (dist W u1 u2 : Int)) = none := val_none (f := fun x : Nat => (Sum.inl (x : Int) : Key)) inlN_inj (g := fun j : Nat => nI j) (by rw [ndk]; exact hin)
          rw [hvn]
          have sz := small _ _ nb5 fun e he => by
            rcases List.mem_append.mp he with h | h
            · exact hrp e (mem_fl.mp h).2
            · obtain ⟨p, hp2, rfl⟩ := List.mem_map.mp h
              exact hrp (p, i) (by show p ∈ Ls.getD i []; rw [gl]; exact List.mem_of_mem_take hp2)
          refine iteT ⟨_, rfl, _, rfl, _, rfl, d, _, rfl, DPut.k (k := Sum.inl (dist W u1 u2 : Int)) d6 ?_, ?_⟩
          · unfold encR
            rw [List.length_map, List.length_map]
            exact small1000 (by omega)
          · rw [putK_new _ hvn]
            refine ⟨ns5 ++ [(dist W u1 u2, ((u1, u2), i))], _, _, _, rfl, ?_, ?_, (s5.trans (s6.sx d)).self d6 rfl⟩
            · rw [tk1, ← List.append_assoc]
              exact nb5.new (e := ((u1, u2), i)) hin
            · rw [upd_same]
              unfold encR
              rw [List.map_append, List.map_append]
              rfl
      · obtain ⟨ns5, y6, y7, y8, rfl, nb5, d5, s5⟩ := h
        have hll := plv.length
        rw [hll, List.take_length] at nb5
        refine ⟨ns5, _, _, _, _, _, rfl, ?_, d5, s5⟩
        rw [fl_succ, gl]
        exact nb5
    · obtain ⟨ns, z4, z5, z6, z7, z8, rfl, nb, d3, s3⟩ := h
      obtain ⟨n1, n2⟩ := nb.nr (pr := fun e : PL2 => e.1) (W := W) (a := a) (b := b) (fun e he => hpl e (mem_fl.mp he).2) fun k p hp => by
        have hk := lay.all k p hp
        obtain ⟨l, el⟩ := get_of_lt hk
        refine ⟨(p, k), mem_fl.mpr ⟨by show k < lls.length; omega, ?_⟩, rfl⟩
        show p ∈ Ls.getD k []
        rw [hgetD k l el]
        exact ((lay.lay k l el).2 p).mpr hp
      have ndk : ((ns.map fun q => (q.1, q.2.2)).map Prod.fst) = ns.map Prod.fst := by rw [List.map_map]; rfl
      refine ⟨_, rfl, q H3 d _ (s3.sm s12 nd) nd ⟨d3, by rw [ndk]; exact nb.nd, fun k j h => ?_, fun k => by rw [ndk]; exact n2 k⟩⟩
      obtain ⟨⟨k', e⟩, h1, h2⟩ := List.mem_map.mp h
      have h3 : k' = k := congrArg Prod.fst h2
      have h4 : e.2 = j := congrArg Prod.snd h2
      rw [← h3, ← h4]
      exact n1 k' e h1
end
end K2
namespace K2
open PySem PySem.Spec PyProof.Rows L2
abbrev st_law_alike : Stmt := topS 54
theorem sc_law_alike : FnScope ["_law_found", "_law_due", "_law_k"] ["_law_found", "_law_due"] (C8.fnScope st_law_alike) := C8.fnScope_by (by decide +kernel)
-- slots: _law_found=0 _law_due=1 _law_k=2

/-- the same by shape and content, at most k deep -/
def Sa : Nat → Hp → V → V → Prop
  | 0, _, x, y => (∃ i : Int, x = .int i ∧ y = .int i) ∨ ∃ b : Bool, x = .bl b ∧ y = .bl b
  | k + 1, H, x, y => ((∃ i : Int, x = .int i ∧ y = .int i) ∨ ∃ b : Bool, x = .bl b ∧ y = .bl b) ∨ ∃ a b xs ys, x = .ref a ∧ y = .ref b ∧ ((H a = some (.lst xs) ∧ H b = some (.lst ys)) ∨ (H a = some (.tup xs) ∧ H b = some (.tup ys))) ∧ Paired (Sa k H) xs ys ∧ xs.length ≤ 200
theorem Sa.sm {H H' : Hp} (e : Sm H H') : ∀ {k : Nat} {x y : V}, Sa k H x y → Sa k H' x y
  | 0, _, _, h => h
  | k + 1, _, _, .inl h => .inl h
  | k + 1, _, _, .inr ⟨a, b, xs, ys, h1, h2, h3, h4, h5⟩ => .inr ⟨a, b, xs, ys, h1, h2, h3.imp (fun z => ⟨e.at_ _ _ rfl z.1, e.at_ _ _ rfl z.2⟩) (fun z => ⟨e.tk _ _ z.1, e.tk _ _ z.2⟩), L2.Paired.mapP h4 fun _ _ z => z.sm e, h5⟩
section
variable {P : Program} {w : World} {K : PySem.W.Frag} {mg : Str → Option Value} {base : Heap}
theorem r_isi2 {H : Hp} {Q : VK} {tp : Addr} {x : V} {n : String} {b : Bool} (k : Kd H x n) (ht : H tp = some (.tup [.ty "tuple", .ty "list"])) (e : PySem.W.kitAny K (.type n) [.type "tuple", .type "list"] = some b) (q : Q (.bl b) H) : rIsiT K [x, .ref tp] H Q :=
  ⟨x, tp, [.ty "tuple", .ty "list"], .type n, [.type "tuple", .type "list"], b, rfl, ht, .cons (.ty _) (.cons (.ty _) .nil), .base k.ty, e, q⟩
def spAl (m : Nat) : Sp := fun vs H Q _ => ∃ x y, vs = [x, y] ∧ Sa m H x y ∧ ∀ H', Sm H H' → Q (.bl true) H'
theorem cal_false {x : Str} {st : Stmt} {f : Addr} {fd : FuncData} {ps : List Str} (F : C8.Def K mg x st f fd) (b : Binds K fd ps []) : C8.Cal P w K mg base 0 x (fun _ _ _ _ => False) [] :=
  ⟨f, fd, ps, [], ⟨fun _ _ _ _ h => h.elim, fun _ _ _ _ _ _ _ _ _ _ _ _ _ h => h.elim⟩, F.mgf, F.kp, b, .nil⟩
theorem cal_alike {n m : Nat} {spR : Sp} {f : Addr} {fd : FuncData} (F : C8.Def K mg "_law_alike" st_law_alike f fd) (b : Binds K fd ["_law_found", "_law_due"] []) (G : Glob mg) (c_law_alike : C8.Cal P w K mg base n "_law_alike" spR []) (hrec : ∀ k x y H Q E, m = k + 1 → Sa k H x y → (∀ H', Sm H H' → Q (.bl true) H') → spR [x, y] H Q E) : C8.Cal P w K mg base (n + 1) "_law_alike" (spAl m) [] := by
  refine C8.cal0 (k := n) F b .nil sc_law_alike (fun vs H Q E h => ?_) (fun cdv A outer s H vs Q E hr h => ?_)
  · obtain ⟨_, _, rfl, _⟩ := h
    rfl
  · obtain ⟨x, y, rfl, hs, q⟩ := h
    refine ⟨_, (pss_cons (ps_if (pt_val (pe_callB (id := "isinstance") call_isiT (by rfl) G.isinstance (by decide +kernel) (pa_cons (pv 1) (pa_cons (pe_tup (pa_cons (pe_bltn (v := .ty "tuple") (by rfl) G.tuple (by decide +kernel) rfl) (pa_cons (pe_bltn (v := .ty "list") (by rfl) G.list (by decide +kernel) rfl) pa_nil))) pa_nil)))) 
      (pss_cons (ps_if (PW.pt (pw_or (pt_not (pt_val (pe_callB (id := "isinstance") call_isiT (by rfl) G.isinstance (by decide +kernel) (pa_cons (pv 0) (pa_cons (pe_tup (pa_cons (pe_bltn (v := .ty "tuple") (by rfl) G.tuple (by decide +kernel) rfl) (pa_cons (pe_bltn (v := .ty "list") (by rfl) G.list (by decide +kernel) rfl) pa_nil))) pa_nil))))) (pw_or1 (pt_cmpR op_ne (pe_callB (id := "isinstance") call_isi (by rfl) G.isinstance (by decide +kernel) (pa_cons (pv 0) (pa_cons (pe_bltn (v := .ty "list") (by rfl) G.list (by decide +kernel) rfl) pa_nil))) (pe_callB (id := "isinstance") call_isi (by rfl) G.isinstance (by decide +kernel) (pa_cons (pv 1) (pa_cons (pe_bltn (v := .ty "list") (by rfl) G.list (by decide +kernel) rfl) pa_nil))) (nomark _))))) 
        (pss_one (ps_ret pe_bl)) pss_nil)
      (pss_cons (ps_if (pt_cmpR op_ne (pe_callB (id := "len") call_len_seq (by rfl) G.len (by decide +kernel) (pa_cons (pv 0) pa_nil)) (pe_callB (id := "len") call_len_seq (by rfl) G.len (by decide +kernel) (pa_cons (pv 1) pa_nil)) (nomark _)) 
        (pss_one (ps_ret pe_bl)) pss_nil)
      (pss_one (ps_ret (pe_cmpR (op_eqD hr.units) (pe_lc (own := [("_law_k", 2)]) (g := gName 2) rfl sc_law_alike.nd (pi_range1 (by rfl) G.range (pa_cons (pe_callB (id := "len") call_len_seq (by rfl) G.len (by decide +kernel) (pa_cons (pv 1) pa_nil)) pa_nil)) (blkOk_by (own := [("_law_k", 2)]) (N := ["_law_found", "_law_due", "_law_k"]) (sc := C8.fnScope st_law_alike) (by decide +kernel)) (fun _ _ _ _ _ => (pg_name (i := 2) sc_law_alike.nd rfl (.inl rfl))) (fun _ _ _ _ _ => pts_one (pt_not (pt_val (C8.pe_c c_law_alike hr (Nat.le_refl _) (by rfl) (pa_cons (pe_ix (ix_seqK (K := K) (by rfl)) (pv 0) (pv 2) (fun _ _ => rfl)) (pa_cons (pe_ix (ix_seqK (K := K) (by rfl)) (pv 1) (pv 2) (fun _ _ => rfl)) pa_nil)))))) (fun _ _ _ _ _ => (pv 2))) (pe_lst pa_nil) (nomark _)))))) pss_nil)
    (pss_cons (ps_if (PW.pt (pw_or (pt_cmpR op_isN (pv 1) pe_non (nomark _)) (pw_or1 (pt_val (pe_callB (id := "isinstance") call_isi (by rfl) G.isinstance (by decide +kernel) (pa_cons (pv 1) (pa_cons (pe_bltn (v := .ty "str") (by rfl) G.str (by decide +kernel) rfl) pa_nil))))))) 
      (pss_one (ps_ret (pe_and (pe_cmpR op_eq (pv 0) (pv 1) (nomark _)) (pe_one (pe_cmpR op_eq (pe_callB (id := "isinstance") call_isi (by rfl) G.isinstance (by decide +kernel) (pa_cons (pv 0) (pa_cons (pe_bltn (v := .ty "str") (by rfl) G.str (by decide +kernel) rfl) pa_nil))) (pe_callB (id := "isinstance") call_isi (by rfl) G.isinstance (by decide +kernel) (pa_cons (pv 1) (pa_cons (pe_bltn (v := .ty "str") (by rfl) G.str (by decide +kernel) rfl) pa_nil))) (nomark _)))))) pss_nil)
    (pss_one (ps_ret (pe_and (pe_callB (id := "isinstance") call_isi (by rfl) G.isinstance (by decide +kernel) (pa_cons (pv 0) (pa_cons (pe_bltn (v := .ty "int") (by rfl) G.int (by decide +kernel) rfl) pa_nil))) (pe_and (pe_cmpR op_eq (pe_callB (id := "isinstance") call_isi (by rfl) G.isinstance (by decide +kernel) (pa_cons (pv 0) (pa_cons (pe_bltn (v := .ty "bool") (by rfl) G.bool (by decide +kernel) rfl) pa_nil))) (pe_callB (id := "isinstance") call_isi (by rfl) G.isinstance (by decide +kernel) (pa_cons (pv 1) (pa_cons (pe_bltn (v := .ty "bool") (by rfl) G.bool (by decide +kernel) rfl) pa_nil))) (nomark _)) (pe_one (pe_cmpR op_eq (pv 0) (pv 1) (nomark _))))))))), ?_⟩
    refine ⟨_, rfl, by show 2 ≤ sizeLine; decide, fun t1 nt1 => ?_⟩
    have s1 : Sm H (upd H t1 (.tup [.ty "tuple", .ty "list"])) := Sm.new nt1
    have ht1 : upd H t1 (.tup [.ty "tuple", .ty "list"]) t1 = some (.tup [.ty "tuple", .ty "list"]) := upd_same
    have hs1 := hs.sm s1
    generalize upd H t1 (.tup [.ty "tuple", .ty "list"]) = H1 at s1 ht1 hs1 ⊢
    -- flat, or not
    have flat : ((∃ i : Int, x = .int i ∧ y = .int i) ∨ ∃ b : Bool, x = .bl b ∧ y = .bl b) ∨ ∃ k a b xs ys, m = k + 1 ∧ x = .ref a ∧ y = .ref b ∧ ((H1 a = some (.lst xs) ∧ H1 b = some (.lst ys)) ∨ (H1 a = some (.tup xs) ∧ H1 b = some (.tup ys))) ∧ Paired (Sa k H1) xs ys ∧ xs.length ≤ 200 := by
      cases m with
      | zero => exact .inl hs1
      | succ k =>
        rcases hs1 with h | ⟨a, b, xs, ys, h⟩
        · exact .inl h
        · exact .inr ⟨k, a, b, xs, ys, rfl, h⟩
    rcases flat with (⟨i, rfl, rfl⟩ | ⟨bo, rfl, rfl⟩) | ⟨k, a, b, xs, ys, em, rfl, rfl, hk, hp, hl⟩
    · refine ⟨_, _, _, _, _, false, rfl, ht1, .cons (.ty _) (.cons (.ty _) .nil), .base (Kd.ty (Kd.int i)), rfl, false, rfl, iteF ?_⟩
      refine ⟨_, rfl, rfl, _, rfl, iteF ?_⟩
      refine r_isiV rfl (.int i) rfl ⟨false, rfl, iteF ?_⟩
      refine r_isiV rfl (.int i) rfl ⟨true, rfl, iteT ?_⟩
      refine r_isiV rfl (.int i) rfl (r_isiV rfl (.int i) rfl ⟨rfl, true, rfl, iteT ⟨_, rfl, _, rfl, rfl, ?_⟩⟩)
      rw [decide_eq_true rfl]
      exact q H1 s1
    · refine ⟨_, _, _, _, _, false, rfl, ht1, .cons (.ty _) (.cons (.ty _) .nil), .base (Kd.ty (Kd.bl bo)), rfl, false, rfl, iteF ?_⟩
      refine ⟨_, rfl, rfl, _, rfl, iteF ?_⟩
      refine r_isiV rfl (.bl bo) rfl ⟨false, rfl, iteF ?_⟩
      refine r_isiV rfl (.bl bo) rfl ⟨true, rfl, iteT ?_⟩
      refine r_isiV rfl (.bl bo) rfl (r_isiV rfl (.bl bo) rfl ⟨rfl, true, rfl, iteT ⟨_, rfl, _, rfl, rfl, ?_⟩⟩)
      rw [decide_eq_true rfl]
      exact q H1 s1
    · have hlen := hp.length
      -- the second isinstance
      have tail : ∀ (Qf : Hp → Prop), True := fun _ => trivial
      obtain ⟨ty, kx, ky, ea, eb, ec⟩ : ∃ ty, Kd H1 (.ref a) ty ∧ Kd H1 (.ref b) ty ∧ PySem.W.kitAny K (.type ty) [.type "tuple", .type "list"] = some true ∧ PySem.W.kitOne K (.type ty) (.type "list") = some (decide (ty = "list")) ∧ True := by
        rcases hk with ⟨h1, h2⟩ | ⟨h1, h2⟩
        · exact ⟨"list", .lst h1, .lst h2, rfl, rfl, trivial⟩
        · exact ⟨"tuple", .tup h1, .tup h2, rfl, rfl, trivial⟩
      refine ⟨_, _, _, _, _, true, rfl, ht1, .cons (.ty _) (.cons (.ty _) .nil), .base (Kd.ty ky), ea, true, rfl, iteT ?_⟩
      refine ⟨_, rfl, by show 2 ≤ sizeLine; decide, fun t2 nt2 => ?_⟩
      have s2 : Sm H1 (upd H1 t2 (.tup [.ty "tuple", .ty "list"])) := Sm.new nt2
      have ht2 : upd H1 t2 (.tup [.ty "tuple", .ty "list"]) t2 = some (.tup [.ty "tuple", .ty "list"]) := upd_same
      have kd : ∀ v, Kd H1 v ty → Kd (upd H1 t2 (.tup [.ty "tuple", .ty "list"])) v ty := fun v k => by
        cases k with
        | non => exact .non
        | bl b => exact .bl b
        | int i => exact .int i
        | str z => exact .str z
        | lst h => exact .lst (s2.at_ _ _ rfl h)
        | tup h => exact .tup (s2.at_ _ _ rfl h)
        | dK h => exact .dK (s2.at_ _ _ rfl h)
      have kx2 := kd _ kx
      have ky2 := kd _ ky
      have hk2 : (((upd H1 t2 (.tup [.ty "tuple", .ty "list"])) a = some (.lst xs) ∧ (upd H1 t2 (.tup [.ty "tuple", .ty "list"])) b = some (.lst ys)) ∨ ((upd H1 t2 (.tup [.ty "tuple", .ty "list"])) a = some (.tup xs) ∧ (upd H1 t2 (.tup [.ty "tuple", .ty "list"])) b = some (.tup ys))) := hk.imp (fun z => ⟨s2.at_ _ _ rfl z.1, s2.at_ _ _ rfl z.2⟩) fun z => ⟨s2.tk _ _ z.1, s2.tk _ _ z.2⟩
      have hp2 : Paired (Sa k (upd H1 t2 (.tup [.ty "tuple", .ty "list"]))) xs ys := L2.Paired.mapP hp fun _ _ z => z.sm s2
      have s12 := s1.trans s2
      generalize upd H1 t2 (.tup [.ty "tuple", .ty "list"]) = H2 at ht2 kx2 ky2 hk2 hp2 s12 ⊢
      refine ⟨_, _, _, _, _, true, rfl, ht2, .cons (.ty _) (.cons (.ty _) .nil), .base (Kd.ty kx2), ea, true, rfl, iteF ?_⟩
      refine r_isiV rfl kx2 eb (r_isiV rfl ky2 eb ⟨rfl, _, rfl, ?_⟩)
      refine ifF (by rw [decide_eq_true rfl]; rfl) ?_
      have sq : ∀ H', Sm H2 H' → (SqL K H' a xs ∨ SqT K H' a xs) ∧ (SqL K H' b ys ∨ SqT K H' b ys) := fun H' s => by
        rcases hk2 with ⟨h1, h2⟩ | ⟨h1, h2⟩
        · exact ⟨.inl (SqL.of (s.at_ _ _ rfl h1)), .inl (SqL.of (s.at_ _ _ rfl h2))⟩
        · exact ⟨.inr (SqT.of (s.tk _ _ h1)), .inr (SqT.of (s.tk _ _ h2))⟩
      refine ⟨_, rfl, a, xs, rfl, (sq H2 (Sm.refl _)).1, _, rfl, b, ys, rfl, (sq H2 (Sm.refl _)).2, rfl, _, rfl, ifF (ne_no hlen) ?_⟩
      refine ⟨_, rfl, b, ys, rfl, (sq H2 (Sm.refl _)).2, _, rfl, by omega, by omega, fun D nD => lc_range (lo := 0) (n := ys.length) (fun j Hj => Hj D = some (.lst []) ∧ Sm H2 Hj) ⟨upd_same, Sm.new nD⟩ (fun j Hj hj h => ?_) (fun Hj h => ?_)⟩
      · obtain ⟨hD, sj⟩ := h
        rw [Int.zero_add]
        obtain ⟨v, hv⟩ := get_of_lt (l := ys) hj
        obtain ⟨u, hu, hsa⟩ := pget2 hp2 hv
        obtain ⟨sq1, sq2⟩ := sq Hj sj
        refine ⟨rfl, _, rfl, _, rfl, ?_⟩
        have r1 : ∀ (Qz : VK), Qz u Hj → rIx K (.ref a) (nI j) Hj Qz := fun Qz z => by
          rcases sq1 with h | h
          · exact .inl ⟨a, xs, _, u, rfl, rfl, h, atI_nat hu, z⟩
          · exact .inr (.inl ⟨a, xs, _, u, rfl, rfl, h, atI_nat hu, z⟩)
        have r2 : ∀ (Qz : VK), Qz v Hj → rIx K (.ref b) (nI j) Hj Qz := fun Qz z => by
          rcases sq2 with h | h
          · exact .inl ⟨b, ys, _, v, rfl, rfl, h, atI_nat hv, z⟩
          · exact .inr (.inl ⟨b, ys, _, v, rfl, rfl, h, atI_nat hv, z⟩)
        refine r1 _ ⟨_, rfl, _, rfl, r2 _ ?_⟩
        refine hrec k u v Hj _ _ em (hsa.sm sj) fun H3 s3 => ⟨true, rfl, iteF ⟨s3.at_ D _ rfl hD, sj.trans s3⟩⟩
      · obtain ⟨hD, sj⟩ := h
        refine ⟨Nat.zero_le _, fun le nle => ?_⟩
        have sle : Sm Hj (upd Hj le (.lst [])) := Sm.new nle
        refine ⟨_, _, dp_isl (ps := []) ⟨D, [], rfl, sle.at_ D _ rfl hD, .nil⟩, dp_isl (ps := []) ⟨le, [], rfl, upd_same, .nil⟩, sh_pairsL _, sh_pairsL _, ?_⟩
        rw [EqD.pair.list [] [], decide_eq_true rfl]
        exact q _ (s12.trans (sj.trans sle))
end
end K2
namespace K2
open PySem PySem.Spec PyProof.Rows L2
abbrev st_lots_of : Stmt := topS 23
theorem sc_lots_of : FnScope ["web", "lots", "many", "rows", "known", "row", "doors", "room", "there", "back"] ["web"] (C8.fnScope st_lots_of) := C8.fnScope_by (by decide +kernel)
-- slots: web=0 lots=1 many=2 rows=3 known=4 row=5 doors=6 room=7 there=8 back=9

abbrev pdS (s : Sig) : PyData := .tuple [.int s.1, .tuple (s.2.map pdP)]
def IsS (H : Hp) (v : V) (s : Sig) : Prop := ∃ a q, v = .ref a ∧ H a = some (.tup [nI s.1, q]) ∧ IsPs H q s.2
theorem IsS.mono {H H' : Hp} {v : V} {s : Sig} (e : Tk H H') (h : IsS H v s) : IsS H' v s := by
  obtain ⟨a, q, rfl, h, r⟩ := h
  exact ⟨a, q, rfl, e _ _ h, r.mono e⟩
theorem dp_sig {K : PySem.W.Frag} {H : Hp} {v : V} {s : Sig} (h : IsS H v s) : Dp K H v (pdS s) := by
  obtain ⟨a, q, rfl, h, r⟩ := h
  exact .tup (SqT.of h) (.cons (.int _) (.cons (dp_isps r) .nil))
theorem shp_sig (s : Sig) : Shp 3 (pdS s) := shp_tup fun d hd => by
  rcases List.mem_cons.mp hd with rfl | hd
  · exact (shp_int _).le (by omega)
  · rw [List.mem_singleton.mp hd]; exact shp_tup (shp_map shp_pair)
theorem EqD.sig : EqD pdS := fun s t => by
  obtain ⟨a, as⟩ := s
  obtain ⟨b, bs⟩ := t
  have h : PyData.eqv (pdS (a, as)) (pdS (b, bs)) = (((a : Int) == (b : Int)) && (PyData.eqv (.tuple (as.map pdP)) (.tuple (bs.map pdP)) && true)) := rfl
  rw [h, Bool.and_true, EqD.pair.tuple as bs]
  by_cases e : a = b
  · subst e
    by_cases e2 : as = bs
    · subst e2; simp
    · rw [decide_eq_false e2, decide_eq_false (fun z => e2 (congrArg Prod.snd z)), Bool.and_false]
  · rw [decide_eq_false (fun z : (a, as) = (b, bs) => e (congrArg Prod.fst z)), beq_eq_false_iff_ne.mpr (fun z => e (by omega)), Bool.false_and]
theorem cn_int {l : List Nat} {m : List Int} (nd : m.Nodup) (h : ∀ k, k ∈ m ↔ k ∈ l.map fun x : Nat => (x : Int)) : Cn l m.length := by
  refine ⟨m.map Int.toNat, ?_, fun x => ?_, by rw [List.length_map]⟩
  · refine List.pairwise_map.mpr (List.Pairwise.imp_of_mem (fun {a b} ha hb hab e => hab ?_) nd)
    obtain ⟨x, _, hx⟩ := List.mem_map.mp ((h a).mp ha)
    obtain ⟨y, _, hy⟩ := List.mem_map.mp ((h b).mp hb)
    omega
  · rw [List.mem_map]
    constructor
    · rintro ⟨a, ha, rfl⟩
      obtain ⟨x, hx, rfl⟩ := List.mem_map.mp ((h a).mp ha)
      exact hx
    · intro hx
      exact ⟨(x : Int), (h _).mpr (List.mem_map.mpr ⟨x, hx, rfl⟩), rfl⟩
theorem Cn.uniq {l : List Nat} {c d : Nat} (h : Cn l c) (g : Cn l d) : c = d := by
  obtain ⟨m, m1, m2, m3⟩ := h
  obtain ⟨n, n1, n2, n3⟩ := g
  have a := nd_le m n m1 fun x hx => (n2 x).mpr ((m2 x).mp hx)
  have b := nd_le n m n1 fun x hx => (m2 x).mpr ((n2 x).mp hx)
  omega
section
variable {P : Program} {w : World} {K : PySem.W.Frag} {mg : Str → Option Value} {base : Heap}
def spLots : Sp := fun vs H Q _ => ∃ (wv : V) (W : Web), vs = [wv] ∧ IsW H wv W ∧ Ok W ∧
  ∀ H' p (l : List Nat), Sm H H' → H p = none → H' p = some (.lst (l.map nI)) → l.length = W.length → (∀ a b, a < W.length → b < W.length → (l.getD a 0 = l.getD b 0 ↔ Alike W a b)) → Q (.ref p) H'
theorem cal_lots_of {f : Addr} {fd : FuncData} (F : C8.Def K mg "lots_of" st_lots_of f fd) (b : Binds K fd ["web"] []) (G : Glob mg) : C8.Cal P w K mg base 1 "lots_of" spLots [] := by
  refine C8.cal0 (k := 0) F b .nil sc_lots_of (fun vs H Q E h => ?_) (fun cdv A outer s H vs Q E hr h => ?_)
  · obtain ⟨_, _, rfl, _⟩ := h
    rfl
  · obtain ⟨wv, W, rfl, hW, ok, q⟩ := h
    refine ⟨_, (pss_cons (ps_asg (pe_tup (pa_cons (pe_lc (own := [("doors", 6)]) (g := gName 6) (tt := tYes) rfl sc_lots_of.nd (pi_tup (pv 0)) (blkOk_by (own := [("doors", 6)]) (N := ["web", "lots", "many", "rows", "known", "row", "doors", "room", "there", "back"]) (sc := C8.fnScope st_lots_of) (by decide +kernel)) (fun _ _ _ _ _ => (pg_name (i := 6) sc_lots_of.nd rfl (.inl rfl))) (fun _ _ _ _ _ => pts_nil) (fun _ _ _ _ _ => (pe_callB (id := "len") (call_len_seqK (K := K) (by rfl)) (by rfl) G.len (by decide +kernel) (pa_cons (pv 6) pa_nil)))) (pa_cons pe_int pa_nil))) (pg_tup rfl (pgs_cons (pg_name (i := 1) sc_lots_of.nd rfl (.inr rfl)) (pgs_cons (pg_name (i := 2) sc_lots_of.nd rfl (.inl rfl)) pgs_nil))))
    (pss_cons (ps_while PassesOwn.never (pt_cmpR op_gt (pe_lenSet rfl (by rfl) G.len (by rfl) G.set (pv 1)) (pv 2) (nomark _)) 
      (pss_cons (ps_set (i := 2) sc_lots_of.nd rfl (.inl rfl) (pe_lenSet rfl (by rfl) G.len (by rfl) G.set (pv 1)))
      (pss_cons (ps_setLc (i := 3) (own := [("room", 7), ("doors", 6)]) (g := gTup K 2 (gCons (gName 7) (gCons (gName 6) gNil))) (tt := tYes) rfl sc_lots_of.nd rfl rfl (sw_true rfl rfl rfl (by decide +kernel)) (pi_enumT (by rfl) G.enumerate (pa_cons (pv 0) pa_nil)) (blkOk_by (own := [("room", 7), ("doors", 6)]) (N := ["web", "lots", "many", "rows", "known", "row", "doors", "room", "there", "back"]) (sc := C8.fnScope st_lots_of) (by decide +kernel)) (fun _ _ _ _ _ => (pg_tup rfl (pgs_cons (pg_name (i := 7) sc_lots_of.nd rfl (.inl rfl)) (pgs_cons (pg_name (i := 6) sc_lots_of.nd rfl (.inl rfl)) pgs_nil)))) (fun _ _ _ _ _ => pts_nil) (fun _ _ _ _ _ => by exact (pe_tup (pa_cons (pe_ix (ix_listK (K := K) (by rfl)) (pv 1) (pv 7) (fun _ _ => rfl)) (pa_cons (pe_tupleOfK (K := K) (by rfl) (by rfl) G.tuple (pe_lc (own := [("there", 8), ("back", 9)]) (g := gTup K 2 (gCons (gName 8) (gCons (gName 9) gNil))) (tt := tYes) rfl sc_lots_of.nd (pi_tupK (K := K) (by rfl) (pv 6)) (blkOk_by (own := [("there", 8), ("back", 9)]) (N := ["web", "lots", "many", "rows", "known", "row", "doors", "room", "there", "back"]) (by rfl)) (fun _ _ _ _ _ => (pg_tup rfl (pgs_cons (pg_name (i := 8) sc_lots_of.nd rfl (.inl rfl)) (pgs_cons (pg_name (i := 9) sc_lots_of.nd rfl (.inl rfl)) pgs_nil)))) (fun _ _ _ _ _ => pts_nil) (fun _ _ _ _ _ => (pe_tup (pa_cons (pv 9) (pa_cons (pe_ix (ix_listK (K := K) (by rfl)) (pv 1) (pv 8) (fun _ _ => rfl)) pa_nil)))))) pa_nil)))))
      (pss_cons (ps_set (i := 4) sc_lots_of.nd rfl (.inr rfl) (pe_lst pa_nil))
      (pss_cons (ps_for PassesOwn.never rfl (pi_list (pv 3)) (pg_name (i := 5) sc_lots_of.nd rfl (.inl rfl)) 
        (pss_one (ps_if (pt_cmpR (op_notInD (hu65 hr)) (pv 5) (pv 4) (by rfl)) 
          (pss_one (ps_expr (pe_bm PySem.F.plainAttrs_list PySem.F.slot_list_append PySem.F.type_list_append mt_append (pv 4) (pa_cons (pv 5) pa_nil)))) pss_nil)))
      (pss_one (ps_set (i := 1) sc_lots_of.nd rfl (.inr rfl) (pe_lc (own := [("row", 5)]) (g := gName 5) (tt := tYes) rfl sc_lots_of.nd (pi_list (pv 3)) (blkOk_by (own := [("row", 5)]) (N := ["web", "lots", "many", "rows", "known", "row", "doors", "room", "there", "back"]) (sc := C8.fnScope st_lots_of) (by decide +kernel)) (fun _ _ _ _ _ => (pg_name (i := 5) sc_lots_of.nd rfl (.inl rfl))) (fun _ _ _ _ _ => pts_nil) (fun _ _ _ _ _ => (pe_indexDK (K := K) (by rfl) (hu65 hr) (pv 4) (pa_cons (pv 5) pa_nil)))))))))))
    (pss_one (ps_ret (pv 1))))), ?_⟩
    obtain ⟨wa, wvs, rfl, hwa, pw⟩ := hW
    have hwl := pw.length
    have n7 := ok.n7
    have n2 := ok.n2
    -- lots = [len(doors) for doors in web]
    refine ⟨_, rfl, wa, rfl, ⟨_, SqT.of hwa⟩, fun la nla => lc_tup (xs := wvs) (fun i Hc => Hc la = some (.lst (((W.take i).map List.length).map nI)) ∧ Sm H Hc) ⟨upd_same, Sm.new nla⟩ (fun i Hc _ h => SqT.of (h.2.tk _ _ hwa)) (fun i x Hc hx h => ?_) (fun Hc h => ?_)⟩
    · obtain ⟨hc, sc⟩ := h
      obtain ⟨ds, ed, da, dvs, rfl, hda, pds⟩ := pget1 pw hx
      refine ⟨rfl, r_yes ⟨_, rfl, da, dvs, rfl, .inr (SqT.of (sc.tk _ _ hda)), _, hc, ?_, ?_, sc.mut nla⟩⟩
      · rw [List.length_map, List.length_map, List.length_take]; exact small1000 (by omega)
      · rw [upd_same, List.take_add_one, ed, pds.length]
        show some (HO.lst _) = _
        rw [List.map_append, List.map_append]
        rfl
    obtain ⟨hc, sc⟩ := h
    rw [hwl, List.take_length] at hc
    refine ⟨by show 2 ≤ sizeLine; decide, fun tp ntp => ⟨tp, _, rfl, SqT.of upd_same, rfl, _, _, rfl, _, _, rfl, rfl, ?_⟩⟩
    have sT : Sm H (upd Hc tp (.tup [.ref la, .int 0])) := sc.add ntp
    have hc2 := (Sm.new (o := .tup [.ref la, .int 0]) ntp).at_ la _ rfl hc
    generalize upd Hc tp (.tup [.ref la, .int 0]) = H1 at sT hc2 ⊢
    -- while len(set(lots)) > many
    refine ⟨fun m σ H1 => ∃ c l la x3 x4 x5 x6 x7 x8 x9, σ = [some (.ref wa), some (.ref la), some (nI c), x3, x4, x5, x6, x7, x8, x9] ∧ Li W l c ∧ H1 la = some (.lst (l.map nI)) ∧ Sm H H1 ∧ H la = none ∧ m = 8 - c, ⟨_, 0, W.map List.length, la, none, none, none, none, none, none, none, rfl, Li.start, hc2, sT, nla, rfl⟩, ?_⟩
    intro m σ H2 hW2
    obtain ⟨c, l, lb, x3, x4, x5, x6, x7, x8, x9, rfl, li, hl, sm, nlb, em⟩ := hW2
    have hll := li.len
    have hmap : l.map nI = (l.map fun x : Nat => (x : Int)).map V.int := by rw [List.map_map]; rfl
    refine ⟨_, rfl, lb, l.map (fun x : Nat => (x : Int)), rfl, SqL.of (by rw [← hmap]; exact hl), by rw [List.length_map]; omega, fun ms nd hms => ?_⟩
    have cn := cn_int nd hms
    have cl := cn.le
    generalize ms.length = c' at cn cl ⊢
    refine ⟨_, rfl, _, _, rfl, rfl, _, rfl, ifB (fun hgt => ?_) (fun hgt => ?_)⟩
    · -- the turn
      have hcc : c < c' := by
        have z := of_decide_eq_true hgt
        omega
      refine ⟨fun σ' H' => ∃ m' : Nat, m' < m ∧ ∃ c l la x3 x4 x5 x6 x7 x8 x9, σ' = [some (.ref wa), some (.ref la), some (nI c), x3, x4, x5, x6, x7, x8, x9] ∧ Li W l c ∧ H' la = some (.lst (l.map nI)) ∧ Sm H H' ∧ H la = none ∧ m' = 8 - c, fun σ' H' h => h, ?_⟩
      refine ⟨_, rfl, lb, l.map (fun x : Nat => (x : Int)), rfl, SqL.of (by rw [← hmap]; exact hl), by rw [List.length_map]; omega, fun ms2 nd2 hms2 => ?_⟩
      have cn2 := cn_int nd2 hms2
      have ec : ms2.length = c' := cn2.uniq cn
      rw [ec]
      -- rows = [...]
      have hwa2 := sm.tk _ _ hwa
      refine ⟨_, rfl, wa, _, rfl, SqT.of hwa2, fun D nD => lc_it (walk_enumT (xs := wvs)) (fun i Hc => ∃ rv, Hc D = some (.lst rv) ∧ Paired (IsS Hc) rv ((List.range i).map (sig W l)) ∧ Sm H2 Hc) ⟨[], upd_same, .nil, Sm.new nD⟩ (fun i Hc _ h => by obtain ⟨_, _, _, h⟩ := h; exact SqT.of (h.tk _ _ hwa2)) (fun i x Hc H' hi h hY => ?_) (fun Hc h => ?_)⟩
      · obtain ⟨rv, hD, pr, sc⟩ := h
        obtain ⟨T, x1, x2, rfl, nT, rfl, e1, e2⟩ := hY
        obtain rfl := Option.some.inj e1
        obtain ⟨ds, ed, hds⟩ := pget1 pw e2
        have hds2 := hds.mono ((sm.trans sc).tk.trans (Tk.new (o := .tup [nI i, x2]) nT))
        have sT2 : Sm H2 (upd Hc T (.tup [nI i, x2])) := sc.add nT
        have hD2 := (Sm.new (o := .tup [nI i, x2]) nT).at_ D _ rfl hD
        have pr2 : Paired (IsS (upd Hc T (.tup [nI i, x2]))) rv ((List.range i).map (sig W l)) := L2.Paired.mapP pr fun _ _ z => z.mono (Tk.new nT)
        refine r_un2v upd_same ⟨rfl, r_yes ?_⟩
        generalize upd Hc T (.tup [nI i, x2]) = H3 at hds2 sT2 hD2 pr2 ⊢
        have hl3 := sT2.at_ lb _ rfl hl
        have hil : i < l.length := by omega
        have hgi : (l.map nI)[i]? = some (nI (l.getD i 0)) := by rw [List.getElem?_map, List.getD_eq_getElem?_getD, List.getElem?_eq_getElem hil]; rfl
        refine ⟨_, rfl, _, rfl, r_ixL hl3 hgi ?_⟩
        obtain ⟨da, dvs, rfl, hda, pds⟩ := hds2
        have hdl := pds.length
        have hd4 : ds.length ≤ 4 := (ok.deg _ _ ed).2
        -- the inner list
        refine ⟨_, rfl, da, rfl, ⟨_, SqT.of hda⟩, fun D2 nD2 => lc_tup (xs := dvs) (fun j Hj => ∃ qv, Hj D2 = some (.lst qv) ∧ Paired (IsP Hj) qv ((ds.take j).map fun p => (p.2, l.getD p.1 0)) ∧ Sm H3 Hj) ⟨[], upd_same, .nil, Sm.new nD2⟩ (fun j Hj _ h => by obtain ⟨_, _, _, h⟩ := h; exact SqT.of (h.tk _ _ hda)) (fun j y Hj hy h => ?_) (fun Hj h => ?_)⟩
        · obtain ⟨qv, hD3, pq, sj⟩ := h
          obtain ⟨⟨t, bk⟩, ep, hp⟩ := pget1 pds hy
          have htl : t < l.length := by
            rw [hll]
            have z : door W i j = some (t, bk) := by rw [door_at ed]; exact ep
            exact ok.to z
          have hgt2 : (l.map nI)[t]? = some (nI (l.getD t 0)) := by rw [List.getElem?_map, List.getD_eq_getElem?_getD, List.getElem?_eq_getElem htl]; rfl
          refine r_un2 (hp.mono sj.tk) ⟨rfl, r_yes ⟨_, rfl, _, rfl, _, rfl, r_ixL (sj.at_ lb _ rfl hl3) hgt2 ⟨by show 2 ≤ sizeLine; decide, fun p np => ?_⟩⟩⟩
          have hlen := pq.length
          rw [List.length_map, List.length_take] at hlen
          have hnD : D2 ≠ p := fun z => by rw [← z, hD3] at np; cases np
          refine ⟨qv, (Sm.new np).at_ D2 _ rfl hD3, small1000 (by omega), qv ++ [.ref p], upd_same, ?_, (sj.add np).mut nD2⟩
          have tk : Tk Hj (upd (upd Hj p (.tup [nI bk, nI (l.getD t 0)])) D2 (.lst (qv ++ [.ref p]))) := (Tk.new np).trans (Tk.lst ((Sm.new np).at_ D2 _ rfl hD3))
          rw [List.take_add_one, ep, List.map_append]
          refine PSnoc (L2.Paired.mapP pq fun _ _ z => z.mono tk) ⟨p, rfl, Tk.lst ((Sm.new np).at_ D2 _ rfl hD3) _ _ upd_same⟩
        · obtain ⟨qv, hD3, pq, sj⟩ := h
          rw [hdl, List.take_length] at pq
          refine .inl ⟨D2, qv, rfl, SqL.of hD3, fun tq ntq => ⟨by show 2 ≤ sizeLine; decide, fun p np => ?_⟩⟩
          have hlen := pr2.length
          rw [List.length_map, List.length_range] at hlen
          have s5 : Sm H3 (upd (upd Hj tq (.tup qv)) p (.tup [nI (l.getD i 0), .ref tq])) := (sj.add ntq).add np
          have hD5 := s5.at_ D _ rfl hD2
          refine ⟨rv, hD5, small1000 (by omega), rv ++ [.ref p], upd_same, ?_, (sT2.trans s5).mut nD⟩
          rw [List.range_succ, List.map_append]
          have t6 := Tk.lst (ys := rv) (o := .lst (rv ++ [.ref p])) hD5
          refine PSnoc (L2.Paired.mapP pr2 fun _ _ z => z.mono (s5.tk.trans t6)) ⟨p, .ref tq, rfl, t6 _ _ upd_same, tq, qv, rfl, t6 _ _ (Tk.new np _ _ upd_same), ?_⟩
          have es : (sig W l i).2 = ds.map fun p => (p.2, l.getD p.1 0) := by
            show (W.getD i []).map _ = _
            rw [List.getD_eq_getElem?_getD, ed]
            rfl
          rw [es]
          exact L2.Paired.mapP pq fun _ _ z => z.mono (((Tk.new ntq).trans (Tk.new np)).trans t6)
      · obtain ⟨rv, hD, pr, sc⟩ := h
        rw [hwl] at pr
        have hrl := pr.length
        rw [List.length_map, List.length_range] at hrl
        have nHD : H D = none := sm.no D nD
        have smc := sm.trans sc
        -- known = []
        refine ⟨Nat.zero_le _, fun kn nkn => ?_⟩
        have nHk : H kn = none := smc.no kn nkn
        have skn : Sm Hc (upd Hc kn (.lst [])) := Sm.new nkn
        refine ⟨_, rfl, D, rfl, ⟨_, SqL.of (skn.at_ D _ rfl hD)⟩, for_list (xs := rv) (fun i σ3 H3 => ∃ kv ks y5 y6 y7 y8 y9, σ3 = [some (.ref wa), some (.ref lb), some (nI c'), some (.ref D), some (.ref kn), y5, y6, y7, y8, y9] ∧ H3 kn = some (.lst kv) ∧ Paired (IsS H3) kv ks ∧ ks.length ≤ i ∧ (∀ s, s ∈ ks ↔ s ∈ (((List.range W.length).map (sig W l)).take i)) ∧ Sm Hc H3)
          ⟨[], [], _, _, _, _, _, rfl, upd_same, .nil, Nat.le_refl _, fun s => by simp, skn⟩ (fun i σ3 H3 _ h => by obtain ⟨_, _, _, _, _, _, _, _, _, _, _, _, h⟩ := h; exact SqL.of (h.at_ D _ rfl hD)) (fun i x σ3 H3 hx h => ?_) (fun σ3 H3 h => ?_)⟩
        · obtain ⟨kv, ks, y5, y6, y7, y8, y9, rfl, hk, pk, lk, mk, s3⟩ := h
          obtain ⟨sg, esg, hsg⟩ := pget1 pr hx
          have hsg3 := hsg.mono s3.tk
          have hi : i < W.length := by have z := lt_of_get hx; omega
          have tk1 : ((List.range W.length).map (sig W l)).take (i + 1) = ((List.range W.length).map (sig W l)).take i ++ [sg] := by rw [List.take_add_one, esg]; rfl
          refine ⟨_, rfl, _, rfl, _, _, dp_sig hsg3, dp_lst hk pk (fun _ _ z => dp_sig z), (shp_sig _).ok (by omega), (shp_lst (shp_map shp_sig)).ok (by omega), ?_⟩
          by_cases hm : sg ∈ ks
          · rw [EqD.sig.yes hm]
            refine ⟨_, rfl, iteF ⟨kv, ks, _, _, _, _, _, rfl, hk, pk, by omega, fun s => ?_, s3⟩⟩
            rw [tk1, List.mem_append, ← mk s, List.mem_singleton]
            exact ⟨.inl, fun h => h.elim id fun e => by rw [e]; exact hm⟩
          · rw [EqD.sig.no hm]
            have hkl := pk.length
            refine ⟨_, rfl, iteT ⟨_, rfl, .inl ⟨rfl, _, SqL.of hk⟩, _, rfl, kn, _, _, rfl, rfl, hk, small1000 (by omega), ?_⟩⟩
            refine ⟨kv ++ [x], ks ++ [sg], _, _, _, _, _, rfl, upd_same, PSnoc (L2.Paired.mapP pk fun _ _ z => z.mono (Tk.lst hk)) (hsg3.mono (Tk.lst hk)), by rw [List.length_append]; show ks.length + 1 ≤ i + 1; omega, fun s => ?_, s3.mut nkn⟩
            rw [tk1, List.mem_append, List.mem_append, mk s]
        · obtain ⟨kv, ks, y5, y6, y7, y8, y9, rfl, hk, pk, lk, mk, s3⟩ := h
          have hks : ∀ r, r < W.length → sig W l r ∈ ks := fun r hr => by
            rw [mk, List.take_of_length_le (by rw [List.length_map, List.length_range]; omega)]
            exact List.mem_map.mpr ⟨r, List.mem_range.mpr hr, rfl⟩
          have hlk : ks.length ≤ 7 := by omega
          -- lots = [known.index(row) for row in rows]
          refine ⟨_, rfl, D, rfl, ⟨_, SqL.of (s3.at_ D _ rfl hD)⟩, fun D3 nD3 => lc_list (xs := rv) (fun i Hi => Hi D3 = some (.lst ((((List.range W.length).map (sig W l)).take i).map fun s => nI (ks.idxOf s))) ∧ Sm H3 Hi) ⟨upd_same, Sm.new nD3⟩ (fun i Hi _ h => SqL.of (h.2.at_ D _ rfl (s3.at_ D _ rfl hD))) (fun i x Hi hx h => ?_) (fun Hi h => ?_)⟩
          · obtain ⟨hD3, si⟩ := h
            obtain ⟨sg, esg, hsg⟩ := pget1 pr hx
            have hi : i < W.length := by have z := lt_of_get hx; omega
            have hin : sg ∈ ks := by
              obtain ⟨r, hr, e⟩ := List.mem_map.mp (mem_of_get esg)
              rw [← e]; exact hks r (List.mem_range.mp hr)
            have hix := List.idxOf_lt_length_of_mem hin
            refine ⟨rfl, r_yes ⟨_, rfl, .inl ⟨rfl, _, SqL.of (si.at_ kn _ rfl hk)⟩, _, rfl, kn, x, _, _, ks.idxOf sg, pdS sg, rfl, rfl, dp_lst (si.at_ kn _ rfl hk) (L2.Paired.mapP pk fun _ _ z => z.mono si.tk) (fun _ _ z => dp_sig z), dp_sig (hsg.mono (s3.trans si).tk), (shp_lst (shp_map shp_sig)).ok (by omega), (shp_sig _).ok (by omega), ?_, ?_, ?_, ?_⟩⟩
            · rw [List.getElem?_map, List.getElem?_eq_getElem hix, List.getElem_idxOf]; rfl
            · rw [EqD.sig, decide_eq_true rfl]
            · intro m z' hm' hz'
              rw [List.getElem?_map] at hz'
              have hml : m < ks.length := by omega
              rw [List.getElem?_eq_getElem hml] at hz'
              have e := Option.some.inj hz'
              rw [← e, EqD.sig]
              refine decide_eq_false fun z => ?_
              have z2 := List.not_of_lt_findIdx (p := (· == sg)) (xs := ks) (i := m) hm'
              rw [z] at z2
              simp at z2
            · refine ⟨_, hD3, by rw [List.length_map, List.length_take]; exact small1000 (by rw [List.length_map, List.length_range]; omega), ?_, si.mut nD3⟩
              rw [upd_same, List.take_add_one, esg]
              show some (HO.lst _) = _
              rw [List.map_append]
              rfl
          · obtain ⟨hD3, si⟩ := h
            rw [hrl, List.take_of_length_le (by rw [List.length_map, List.length_range]; exact Nat.le_refl _), List.map_map] at hD3
            have e1 : (List.range W.length).map ((fun s => nI (ks.idxOf s)) ∘ sig W l) = ((List.range W.length).map fun r => ks.idxOf (sig W l r)).map nI := by rw [List.map_map]; rfl
            rw [e1] at hD3
            have gd : ∀ r, r < W.length → ((List.range W.length).map fun r => ks.idxOf (sig W l r)).getD r 0 = ks.idxOf (sig W l r) := fun r hr => by
              rw [List.getD_eq_getElem?_getD, List.getElem?_map, List.getElem?_range hr]; rfl
            have rf : Rf W l ((List.range W.length).map fun r => ks.idxOf (sig W l r)) := by
              refine ⟨by rw [List.length_map, List.length_range], fun a b ha hb => ?_⟩
              rw [gd a ha, gd b hb]
              refine ⟨fun e => ?_, fun e => by rw [e]⟩
              have za := List.idxOf_lt_length_of_mem (hks a ha)
              have zb := List.idxOf_lt_length_of_mem (hks b hb)
              have ga : ks[ks.idxOf (sig W l a)] = sig W l a := List.getElem_idxOf za
              have gb : ks[ks.idxOf (sig W l b)] = sig W l b := List.getElem_idxOf zb
              rw [← ga, ← gb]
              congr 1
            exact ⟨_, by omega, c', _, D3, _, _, _, _, _, _, _, rfl, li.next ok cn rf, hD3, (smc.trans s3).trans si, smc.no D3 (s3.no D3 nD3), rfl⟩
    · have hcc : c' ≤ c := by
        have z := of_decide_eq_false hgt
        omega
      exact ⟨_, rfl, q H2 lb l sm nlb hl hll (li.fin ok cn hcc)⟩
end
end K2
namespace K2
open PySem PySem.Spec PyProof.Rows L2
abbrev st_pairs_from : Stmt := topS 25
theorem sc_pairs_from : FnScope ["web", "one", "other", "found", "layer", "later", "pair", "door", "there"] ["web", "one", "other"] (C8.fnScope st_pairs_from) := C8.fnScope_by (by decide +kernel)
-- slots: web=0 one=1 other=2 found=3 layer=4 later=5 pair=6 door=7 there=8

abbrev PE2 := (Nat × Nat) × (V × List Nat)
def encT (es : List PE2) : List (List Key × V) := es.map fun q => (kP q.1, q.2.1)
def lvE (es : List PE2) : List ((Nat × Nat) × Nat) := es.map fun q => (q.1, q.2.2.length)
def RowE (H : Hp) (W : Web) (a b : Nat) (es : List PE2) : Prop := ∀ e ∈ es, IsR H e.2.1 e.2.2 ∧ go W a e.2.2 = some e.1.1 ∧ go W b e.2.2 = some e.1.2
theorem RowE.mono {H H' : Hp} {W : Web} {a b : Nat} {es : List PE2} (t : Tk H H') (h : RowE H W a b es) : RowE H' W a b es := fun e he => ⟨(h e he).1.mono t, (h e he).2⟩
theorem lvE_fst (es : List PE2) : (lvE es).map Prod.fst = es.map Prod.fst := by unfold lvE; rw [List.map_map]; rfl
theorem encT_some {es : List PE2} (nd : ((lvE es).map Prod.fst).Nodup) {e : PE2} (h : e ∈ es) : valV (encT es) (kP e.1) = some e.2.1 := by
  rw [lvE_fst] at nd
  exact val_some (f := kP) kP_inj (g := fun z : V × List Nat => z.1) (fs := es) nd (x := e.1) (v := e.2) h
theorem encT_none {es : List PE2} {x : Nat × Nat} (h : x ∉ (lvE es).map Prod.fst) : valV (encT es) (kP x) = none := by
  rw [lvE_fst] at h
  exact val_none (f := kP) kP_inj (g := fun z : V × List Nat => z.1) h
theorem lvE_snoc (es : List PE2) (e : PE2) : lvE (es ++ [e]) = lvE es ++ [(e.1, e.2.2.length)] := by unfold lvE; rw [List.map_append]; rfl
/-- the found pairs with their rows -/
structure PF (H : Hp) (W : Web) (a b : Nat) (p : Addr) (es : List PE2) : Prop where
  at_ : H p = some (.dT (encT es))
  row : RowE H W a b es
  nd : ((lvE es).map Prod.fst).Nodup
  mem : ∀ x j, (x, j) ∈ lvE es ↔ Pl W a b j x
  ord : ((lvE es).map Prod.snd).Pairwise (· ≤ ·)
section
variable {P : Program} {w : World} {K : PySem.W.Frag} {mg : Str → Option Value} {base : Heap}
def spPairs : Sp := fun vs H Q _ => ∃ (wv : V) (W : Web) (a b : Nat), vs = [wv, nI a, nI b] ∧ IsW H wv W ∧ Ok W ∧ a < W.length ∧ b < W.length ∧ Alike W a b ∧
  ∀ H' p es, Sm H H' → H p = none → PF H' W a b p es → Q (.ref p) H'
theorem cal_pairs_from {f : Addr} {fd : FuncData} (F : C8.Def K mg "pairs_from" st_pairs_from f fd) (b : Binds K fd ["web", "one", "other"] []) (G : Glob mg) : C8.Cal P w K mg base 1 "pairs_from" spPairs [] := by
  refine C8.cal0 (k := 0) F b .nil sc_pairs_from (fun vs H Q E h => ?_) (fun cdv A outer s H vs Q E hr h => ?_)
  · obtain ⟨_, _, _, _, rfl, _⟩ := h
    rfl
  · obtain ⟨wv, W, a, b, rfl, hW, ok, ha, hb, al, q⟩ := h
    refine ⟨_, (pss_cons (ps_par (i := 3) (j := 4) (by rfl) sc_pairs_from.nd rfl rfl (by decide) rfl rfl (pa_cons (pe_dispT (hu_of hr) (pe_tup (pa_cons (pv 1) (pa_cons (pv 2) pa_nil))) (pe_tup pa_nil)) (pa_cons (pe_lst (pa_cons (pe_tup (pa_cons (pv 1) (pa_cons (pv 2) pa_nil))) pa_nil)) pa_nil)) (by rfl))
    (pss_cons (ps_while PassesOwn.never (pt_truth (pv 4) (by intro _; rfl)) 
      (pss_cons (ps_set (i := 5) sc_pairs_from.nd rfl (.inl rfl) (pe_lst pa_nil))
      (pss_cons (ps_for PassesOwn.never rfl (pi_list (pv 4)) (pg_name (i := 6) sc_pairs_from.nd rfl (.inl rfl)) 
        (pss_one (ps_for PassesOwn.never rfl (pi_range1 (by rfl) G.range (pa_cons (pe_callB (id := "len") call_len_seq (by rfl) G.len (by decide +kernel) (pa_cons (pe_ix ix_tup (pv 0) (pe_ix ix_tup (pv 6) pe_int (fun _ _ => rfl)) (fun _ _ => rfl)) pa_nil)) pa_nil)) (pg_name (i := 7) sc_pairs_from.nd rfl (.inl rfl)) 
          (pss_cons (ps_set (i := 8) sc_pairs_from.nd rfl (.inl rfl) (pe_tup (pa_cons (pe_ix ix_tup (pe_ix ix_tup (pe_ix ix_tup (pv 0) (pe_ix ix_tup (pv 6) pe_int (fun _ _ => rfl)) (fun _ _ => rfl)) (pv 7) (fun _ _ => rfl)) pe_int (fun _ _ => rfl)) (pa_cons (pe_ix ix_tup (pe_ix ix_tup (pe_ix ix_tup (pv 0) (pe_ix ix_tup (pv 6) pe_int (fun _ _ => rfl)) (fun _ _ => rfl)) (pv 7) (fun _ _ => rfl)) pe_int (fun _ _ => rfl)) pa_nil))))
          (pss_one (ps_if (pt_cmp (pc_dnotin (hu_of hr) (pv 8) (pv 3)) (by rfl)) 
            (pss_cons (ps_dput (hu_of hr) (pv 3) (pv 8) (pe_op op_catA (pe_dget (hu_of hr) (pv 3) (pv 6) (fun _ _ => rfl)) (pe_tup (pa_cons (pv 7) pa_nil))) rfl)
            (pss_one (ps_expr (pe_bm PySem.F.plainAttrs_list PySem.F.slot_list_append PySem.F.type_list_append mt_append (pv 5) (pa_cons (pv 8) pa_nil))))) pss_nil))))))
      (pss_one (ps_set (i := 4) sc_pairs_from.nd rfl (.inl rfl) (pv 5))))))
    (pss_one (ps_ret (pv 3))))), ?_⟩
    have U : ∀ k x, Lv (Sq W) (a, b) k x → x ∈ sq W.length := fun k x h => mem_sq.mpr (lv_lt ok ha hb h)
    have n7 := ok.n7
    have n49 : (sq W.length).length ≤ 49 := by rw [len_sq]; exact Nat.mul_le_mul n7 n7
    -- found, layer = {(one, other): ()}, [(one, other)]
    refine fun d nd => ⟨_, rfl, _, rfl, by show 2 ≤ sizeLine; decide, fun t1 nt1 => ⟨Nat.zero_le _, fun t0 nt0 => ?_⟩⟩
    obtain ⟨nt1a, nt1d⟩ := upd_no nt1
    obtain ⟨nt0a, nt0t⟩ := upd_no nt0
    obtain ⟨nt0b, nt0d⟩ := upd_no nt0a
    generalize eH2 : upd (upd (upd H d (.dT [])) t1 (.tup [nI a, nI b])) t0 (.tup []) = H2
    have s2 : Sm H H2 := by rw [← eH2]; exact ((Sm.new nd).add nt1).add nt0
    have d2 : H2 d = some (.dT []) := by rw [← eH2, upd_ne nt0d.symm, upd_ne nt1d.symm, upd_same]
    have c2 : H2 t1 = some (.tup [nI a, nI b]) := by rw [← eH2, upd_ne nt0t.symm, upd_same]
    have z2 : H2 t0 = some (.tup []) := by rw [← eH2, upd_same]
    refine ⟨_, _, rfl, d2, t1, kP (a, b), rfl, c2, ?_⟩
    generalize eH3 : upd H2 d (.dT [(kP (a, b), .ref t0)]) = H3
    have s3 : Sm H H3 := by rw [← eH3]; exact s2.mut nd
    have d3 : H3 d = some (.dT [(kP (a, b), .ref t0)]) := by rw [← eH3, upd_same]
    have z3 : H3 t0 = some (.tup []) := by rw [← eH3]; exact Tk.dT d2 _ _ z2
    refine ⟨_, rfl, _, rfl, by show 2 ≤ sizeLine; decide, fun t2 nt2 => ⟨by show 1 ≤ sizeLine; decide, fun la nla => ⟨_, _, rfl, ?_⟩⟩⟩
    obtain ⟨nla2, nlt⟩ := upd_no nla
    have s4 : Sm H3 (upd (upd H3 t2 (.tup [nI a, nI b])) la (.lst [.ref t2])) := (Sm.new nt2).add nla
    have size_of : ∀ {k : Nat} {es : List PE2} {layer : List (Nat × Nat)}, Bf (Sq W) (a, b) k (lvE es) layer → es.length ≤ 49 := fun {k es layer} b => by
      have z := b.size (sq W.length) U
      unfold lvE at z
      rw [List.length_map] at z
      omega
    -- while layer
    refine ⟨fun m σ H1 => ∃ k es layer lvs lb x5 x6 x7 x8, σ = [some wv, some (nI a), some (nI b), some (.ref d), some (.ref lb), x5, x6, x7, x8] ∧ Bf (Sq W) (a, b) k (lvE es) layer ∧ H1 d = some (.dT (encT es)) ∧ H1 lb = some (.lst lvs) ∧ Paired (IsP H1) lvs layer ∧ RowE H1 W a b es ∧ Sm H H1 ∧
      H lb = none ∧ k + min layer.length 1 ≤ es.length ∧ m = 2 * (49 - es.length) + min layer.length 1, ⟨_, 0, [((a, b), (.ref t0, []))], [(a, b)], [.ref t2], la, none, none, none, none, rfl, Bf.start, s4.at_ d _ rfl d3, upd_same, .cons ⟨t2, rfl, Tk.new nla _ _ upd_same⟩ .nil, ?_, s3.trans s4, s3.no la nla2, by show 0 + 1 ≤ 1; omega, rfl⟩, ?_⟩
    · intro e he
      cases List.mem_singleton.mp he
      exact ⟨⟨t0, rfl, s4.tk _ _ z3⟩, go_nil, go_nil⟩
    intro m σ H1 hW1
    obtain ⟨k, es, layer, lvs, lb, x5, x6, x7, x8, rfl, bf, hd, hl, pl, hr1, sm, nlb, hke, em⟩ := hW1
    have hll := pl.length
    refine ⟨_, rfl, !lvs.isEmpty, .inl ⟨_, SqL.of hl, rfl⟩, ?_⟩
    by_cases he : lvs = []
    · subst he
      have hle : layer = [] := List.eq_nil_of_length_eq_zero hll.symm
      subst hle
      refine iteF ?_
      exact ⟨_, rfl, q H1 d es sm nd ⟨hd, hr1, bf.nd, bf.fin, bf.ord⟩⟩
    · rw [show (!lvs.isEmpty) = true by cases lvs with
        | nil => exact absurd rfl he
        | cons => rfl]
      refine iteT ⟨fun σ' H' => ∃ m' : Nat, m' < m ∧ ∃ k es layer lvs lb x5 x6 x7 x8, σ' = [some wv, some (nI a), some (nI b), some (.ref d), some (.ref lb), x5, x6, x7, x8] ∧ Bf (Sq W) (a, b) k (lvE es) layer ∧ H' d = some (.dT (encT es)) ∧ H' lb = some (.lst lvs) ∧ Paired (IsP H') lvs layer ∧ RowE H' W a b es ∧ Sm H H' ∧
        H lb = none ∧ k + min layer.length 1 ≤ es.length ∧ m' = 2 * (49 - es.length) + min layer.length 1, fun σ' H' h => h, ?_⟩
      -- later = []
      refine ⟨Nat.zero_le _, fun lc nlc => ?_⟩
      have nc : lc ≠ d := fun e => by rw [e, hd] at nlc; cases nlc
      have nc2 : lc ≠ lb := fun e => by rw [e, hl] at nlc; cases nlc
      have ndb : lb ≠ d := fun e => by rw [e, hd] at hl; cases hl
      have nHc : H lc = none := sm.no lc nlc
      -- for pair in layer
      refine ⟨_, rfl, lb, rfl, ⟨_, SqL.of (by rw [upd_ne nc2.symm]; exact hl)⟩, for_list (xs := lvs) (fun i σ2 H2 => ∃ es2 later ltv y6 y7 y8, σ2 = [some wv, some (nI a), some (nI b), some (.ref d), some (.ref lb), some (.ref lc), y6, y7, y8] ∧
        Bi (Sq W) (a, b) k (lvE es) layer (lvE es2) later (fun y => ∃ (j : Nat) (x : Nat × Nat), j < i ∧ layer[j]? = some x ∧ Sq W x y) ∧ H2 d = some (.dT (encT es2)) ∧ H2 lb = some (.lst lvs) ∧ H2 lc = some (.lst ltv) ∧ Paired (IsP H2) ltv later ∧ Paired (IsP H2) lvs layer ∧ RowE H2 W a b es2 ∧ Sm H H2)
        ⟨es, [], [], x6, x7, x8, rfl, (Bi.start bf).weak (fun y h => by obtain ⟨j, x, h, _⟩ := h; omega), ?_, ?_, upd_same, .nil, L2.Paired.mapP pl fun _ _ z => z.mono (Tk.new nlc), hr1.mono (Tk.new nlc), sm.mut nHc⟩
        (fun i σ2 H2 _ h => by obtain ⟨_, _, _, _, _, _, _, _, _, h, _⟩ := h; exact SqL.of h) (fun i x σ2 H2 hx h => ?_) (fun σ2 H2 h => ?_)⟩
      · rw [upd_ne nc.symm]; exact hd
      · rw [upd_ne nc2.symm]; exact hl
      · -- a turn: for door in range(len(web[pair[0]]))
        obtain ⟨es2, later, ltv, y6, y7, y8, rfl, bi, hd2, hl2, hc2, pt2, pl2, hr2, sm2⟩ := h
        obtain ⟨⟨u1, u2⟩, hx1, hxp⟩ := pget1 pl2 hx
        obtain ⟨pa, rfl, hpa⟩ := hxp
        have hmd := (bf.lay (u1, u2)).mp (mem_of_get hx1)
        obtain ⟨hu1, hu2⟩ := lv_lt ok ha hb hmd.1
        have hal : Alike W u1 u2 := lv_alike al hmd.1
        refine ⟨_, rfl, _, rfl, pa, _, 0, _, rfl, rfl, SqT.of hpa, rfl, r_web (hW.mono sm2.tk) hu1 fun ds dv e1 hds => ?_⟩
        obtain ⟨dva, dvs, rfl, hdv, pds⟩ := hds
        have hdl := pds.length
        have hd4 : ds.length ≤ 4 := (ok.deg _ _ e1).2
        refine ⟨dva, dvs, rfl, .inr (SqT.of hdv), _, rfl, by show -(2 ^ 62) ≤ ((dvs.length : Nat) : Int); omega, by show ((dvs.length : Nat) : Int) < 2 ^ 62; omega, for_rg (n := dvs.length) (fun j σ3 H3 => ∃ es3 later3 ltv3 z7 z8, σ3 = [some wv, some (nI a), some (nI b), some (.ref d), some (.ref lb), some (.ref lc), some (.ref pa), z7, z8] ∧
          Bi (Sq W) (a, b) k (lvE es) layer (lvE es3) later3 (fun y => (∃ (j : Nat) (x : Nat × Nat), j < i ∧ layer[j]? = some x ∧ Sq W x y) ∨ ∃ d' b1 b2, d' < j ∧ door W u1 d' = some (y.1, b1) ∧ door W u2 d' = some (y.2, b2)) ∧ H3 d = some (.dT (encT es3)) ∧ H3 lb = some (.lst lvs) ∧ H3 lc = some (.lst ltv3) ∧ Paired (IsP H3) ltv3 later3 ∧ Paired (IsP H3) lvs layer ∧ RowE H3 W a b es3 ∧ Sm H H3 ∧ Tk H2 H3)
          ⟨es2, later, ltv, y7, y8, rfl, bi.weak (fun y h => by rcases h with h | ⟨_, _, _, h, _⟩; exact h; omega), hd2, hl2, hc2, pt2, pl2, hr2, sm2, Tk.refl _⟩ (fun j σ3 H3 hj h => ?_) (fun σ3 H3 h => ?_)⟩
        · obtain ⟨es3, later3, ltv3, z7, z8, rfl, bi3, hd3, hl3, hc3, pt3, pl3, hr3, sm3, tk3⟩ := h
          have hdeg : j < deg W u1 := by rw [deg_at e1]; omega
          obtain ⟨⟨t1', b1⟩, ed1⟩ := door_of_lt hdeg
          obtain ⟨t2', ed2, hal2⟩ := hal.step ed1
          have hW3 := hW.mono sm3.tk
          have hpa3 := tk3 _ _ hpa
          refine ⟨_, rfl, _, rfl, pa, _, 0, _, rfl, rfl, SqT.of hpa3, rfl, r_web hW3 hu1 fun ds1 dv1 f1 hds1 => ⟨_, rfl, r_ps hds1 (by rw [← door_at f1]; exact ed1) fun pv1 hp1 => ?_⟩⟩
          obtain ⟨qa, rfl, hqa⟩ := hp1
          refine ⟨qa, _, 0, _, rfl, rfl, SqT.of hqa, rfl, ?_⟩
          refine ⟨_, rfl, _, rfl, pa, _, 1, _, rfl, rfl, SqT.of hpa3, rfl, r_web hW3 hu2 fun ds2 dv2 f2 hds2 => ⟨_, rfl, r_ps hds2 (by rw [← door_at f2]; exact ed2) fun pv2 hp2 => ?_⟩⟩
          obtain ⟨qb, rfl, hqb⟩ := hp2
          refine ⟨qb, _, 0, _, rfl, rfl, SqT.of hqb, rfl, by show 2 ≤ sizeLine; decide, fun p np => ?_⟩
          have sma : Sm H3 (upd H3 p (.tup [nI t1', nI t2'])) := Sm.new np
          have hp3 : IsP (upd H3 p (.tup [nI t1', nI t2'])) (.ref p) (t1', t2') := ⟨p, rfl, upd_same⟩
          generalize upd H3 p (.tup [nI t1', nI t2']) = Ha at sma hp3 ⊢
          have hsq : Sq W (u1, u2) (t1', t2') := ⟨j, b1, b1, ed1, ed2⟩
          have seen_step : ∀ y, ((∃ (j : Nat) (x : Nat × Nat), j < i ∧ layer[j]? = some x ∧ Sq W x y) ∨ ∃ d' b1 b2, d' < j + 1 ∧ door W u1 d' = some (y.1, b1) ∧ door W u2 d' = some (y.2, b2)) → ((∃ (j : Nat) (x : Nat × Nat), j < i ∧ layer[j]? = some x ∧ Sq W x y) ∨ ∃ d' b1 b2, d' < j ∧ door W u1 d' = some (y.1, b1) ∧ door W u2 d' = some (y.2, b2)) ∨ y = (t1', t2') := by
            intro y h
            rcases h with h | ⟨d', c1, c2, h, g1, g2⟩
            · exact .inl (.inl h)
            · by_cases c : d' = j
              · subst c
                rw [ed1] at g1
                rw [ed2] at g2
                have g1' := Option.some.inj g1
                have g2' := Option.some.inj g2
                exact .inr (Prod.ext (congrArg Prod.fst g1').symm (congrArg Prod.fst g2').symm)
              · exact .inl (.inr ⟨d', c1, c2, by omega, g1, g2⟩)
          -- if there not in found
          refine ⟨_, rfl, _, rfl, d, _, rfl, DGet.p (sma.at_ d _ rfl hd3) hp3, _, rfl, ?_⟩
          by_cases hm : (t1', t2') ∈ (lvE es3).map Prod.fst
          · obtain ⟨e', hm1, hm2⟩ : ∃ e' ∈ es3, e'.1 = (t1', t2') := by
              rw [lvE_fst] at hm
              obtain ⟨e', h1, h2⟩ := List.mem_map.mp hm
              exact ⟨e', h1, h2⟩
            rw [show valV (encT es3) (kP (t1', t2')) = some e'.2.1 by rw [← hm2]; exact encT_some bi3.nd hm1]
            refine iteF ?_
            exact ⟨es3, later3, ltv3, _, _, rfl, (bi3.old hm).weak seen_step, sma.at_ d _ rfl hd3, sma.at_ lb _ rfl hl3, sma.at_ lc _ rfl hc3, L2.Paired.mapP pt3 fun _ _ z => z.mono sma.tk, L2.Paired.mapP pl3 fun _ _ z => z.mono sma.tk, hr3.mono sma.tk, sm3.trans sma, tk3.trans sma.tk⟩
          · rw [show valV (encT es3) (kP (t1', t2')) = none from encT_none hm]
            refine iteT ?_
            -- the pair's own row
            obtain ⟨e', hm1, hm2⟩ : ∃ e' ∈ es3, (e'.1, e'.2.2.length) = ((u1, u2), k) := by
              have hin : ((u1, u2), k) ∈ lvE es3 := by rw [bi3.eq]; exact List.mem_append_left _ ((bf.mem _ k).mpr ⟨Nat.le_refl _, hmd⟩)
              exact List.mem_map.mp hin
            obtain ⟨he1, he2⟩ := Prod.mk.inj hm2
            obtain ⟨⟨ra, era, hra⟩, hg1, hg2⟩ := hr3 e' hm1
            have get1 : DGet Ha d (.ref pa) (some (.ref ra)) := by
              have z := DGet.p (p := (u1, u2)) (sma.at_ d _ rfl hd3) (b := pa) ⟨pa, rfl, sma.tk _ _ hpa3⟩
              rwa [show valV (encT es3) (kP (u1, u2)) = some (.ref ra) by rw [← he1, ← era]; exact encT_some bi3.nd hm1] at z
            refine ⟨_, rfl, _, rfl, d, _, rfl, get1, _, rfl, by show 1 ≤ sizeLine; decide, fun pt npt => ?_⟩
            have smb : Sm Ha (upd Ha pt (.tup [nI j])) := Sm.new npt
            have hrow : e'.2.2.length ≤ 49 := by
              have z := size_of bf
              rw [he2]
              omega
            refine r_catA (xs := e'.2.2.map nI) (ys := [nI j]) (smb.tk _ _ (sma.tk _ _ hra)) upd_same (by rw [List.length_map]; exact Nat.le_of_lt (small1000 (n := e'.2.2.length + 1) (by omega))) fun c Hc smc tkc _ hcc => ?_
            have smx : Sm H3 Hc := sma.trans (smb.trans smc)
            have hdc : Hc d = some (.dT (encT es3)) := smx.at_ d _ rfl hd3
            have hcl : Hc lc = some (.lst ltv3) := smx.at_ lc _ rfl hc3
            have hlen : es3.length ≤ 49 := by
              have z := bi3.size (sq W.length) U
              unfold lvE at z
              rw [List.length_map] at z
              omega
            refine ⟨_, rfl, _, rfl, d, _, rfl, DPut.p hdc (hp3.mono (smb.trans smc).tk) (by unfold encT; rw [List.length_map]; exact small1000 (by omega)), ?_⟩
            rw [putK_new _ (encT_none hm)]
            have ee : encT es3 ++ [(kP (t1', t2'), .ref c)] = encT (es3 ++ [((t1', t2'), (.ref c, e'.2.2 ++ [j]))]) := by unfold encT; rw [List.map_append]; rfl
            rw [ee]
            generalize eH5 : upd Hc d (.dT (encT (es3 ++ [((t1', t2'), (.ref c, e'.2.2 ++ [j]))]))) = H5
            have t5 : Tk Hc H5 := by rw [← eH5]; exact Tk.dT hdc
            have hc5 : H5 lc = some (.lst ltv3) := by rw [← eH5, upd_ne nc]; exact hcl
            have hd5 : H5 d = some (.dT (encT (es3 ++ [((t1', t2'), (.ref c, e'.2.2 ++ [j]))]))) := by rw [← eH5, upd_same]
            have hl5 : H5 lb = some (.lst lvs) := by rw [← eH5, upd_ne ndb]; exact smx.at_ lb _ rfl hl3
            have s5 : Sm H H5 := by rw [← eH5]; exact (sm3.trans smx).mut nd
            have lt3 := pt3.length
            have l3 : later3.length ≤ 49 := by
              have z := congrArg List.length bi3.eq
              unfold lvE at z
              rw [List.length_append, List.length_map, List.length_map, List.length_map] at z
              omega
            -- later.append(there)
            refine ⟨_, rfl, .inl ⟨rfl, _, SqL.of hc5⟩, _, rfl, lc, _, _, rfl, rfl, hc5, small1000 (by omega), ?_⟩
            have t6 : Tk H3 (upd H5 lc (.lst (ltv3 ++ [.ref p]))) := smx.tk.trans (t5.trans (Tk.lst hc5))
            refine ⟨es3 ++ [((t1', t2'), (.ref c, e'.2.2 ++ [j]))], later3 ++ [(t1', t2')], ltv3 ++ [.ref p], _, _, rfl, ?_, ?_, ?_, upd_same, ?_, L2.Paired.mapP pl3 fun _ _ z => z.mono t6, ?_, s5.mut nHc, tk3.trans t6⟩
            · rw [lvE_snoc]
              have hk : (e'.2.2 ++ [j]).length = k + 1 := by rw [List.length_append, he2]; rfl
              rw [hk]
              exact (bi3.new (mem_of_get hx1) hsq hm).weak seen_step
            · rw [upd_ne nc.symm]; exact hd5
            · rw [upd_ne nc2.symm]; exact hl5
            · refine PSnoc (L2.Paired.mapP pt3 fun _ _ z => z.mono t6) (hp3.mono ((smb.trans smc).tk.trans (t5.trans (Tk.lst hc5))))
            · intro e hx2
              rcases List.mem_append.mp hx2 with h | h
              · exact ⟨(hr3 e h).1.mono t6, (hr3 e h).2⟩
              · cases List.mem_singleton.mp h
                refine ⟨⟨c, rfl, t5.trans (Tk.lst hc5) _ _ (by rw [List.map_append]; exact hcc)⟩, go_snoc (by rw [hg1, he1]) ed1, go_snoc (by rw [hg2, he1]) ed2⟩
        · obtain ⟨es3, later3, ltv3, z7, z8, rfl, bi3, hd3, hl3, hc3, pt3, pl3, hr3, sm3, tk3⟩ := h
          refine ⟨es3, later3, ltv3, _, _, _, rfl, bi3.weak ?_, hd3, hl3, hc3, pt3, pl3, hr3, sm3⟩
          intro y ⟨j, x, hj, hx9, d', c1, c2, hS1, hS2⟩
          by_cases c : j = i
          · rw [c, hx1] at hx9
            have hxe : x = (u1, u2) := (Option.some.inj hx9).symm
            rw [hxe] at hS1 hS2
            have hlt := (door_lt hS1).2
            rw [deg_at e1] at hlt
            exact .inr ⟨d', c1, c2, by omega, hS1, hS2⟩
          · exact .inl ⟨j, x, by omega, hx9, d', c1, c2, hS1, hS2⟩
      · -- layer = later
        obtain ⟨es2, later, ltv, y6, y7, y8, rfl, bi, hd2, hl2, hc2, pt2, pl2, hr2, sm2⟩ := h
        have bf2 : Bf (Sq W) (a, b) (k + 1) (lvE es2) later := bi.done fun x y hx hS => by
          obtain ⟨j, hj, e⟩ := get_of_mem hx
          exact ⟨j, x, by omega, e, hS⟩
        have z5 : 0 < lvs.length := List.length_pos_iff.mpr he
        have z6 : es2.length = es.length + later.length := by
          have z := congrArg List.length bi.eq
          unfold lvE at z
          rwa [List.length_append, List.length_map, List.length_map, List.length_map] at z
        refine ⟨_, rfl, _, ?_, k + 1, es2, later, ltv, lc, _, _, _, _, rfl, bf2, hd2, hc2, pt2, hr2, sm2, nHc, ?_, rfl⟩
        rotate_left
        · omega
        have z1 := size_of bf
        have z2 := size_of bf2
        have z3 : es2.length = es.length + later.length := by
          have z := congrArg List.length bi.eq
          unfold lvE at z
          rwa [List.length_append, List.length_map, List.length_map, List.length_map] at z
        have z4 : 0 < lvs.length := List.length_pos_iff.mpr he
        omega
end
end K2
namespace K2
open PySem PySem.Spec PyProof.Rows L2
abbrev st_far : Stmt := topS 26
theorem sc_far : FnScope ["web", "pair"] ["web", "pair"] (C8.fnScope st_far) := C8.fnScope_by (by decide +kernel)
-- slots: web=0 pair=1

abbrev st_near_rows : Stmt := topS 27
theorem sc_near_rows : FnScope ["web", "one", "other", "found", "pair", "row"] ["web", "one", "other"] (C8.fnScope st_near_rows) := C8.fnScope_by (by decide +kernel)
-- slots: web=0 one=1 other=2 found=3 pair=4 row=5

section
variable {P : Program} {w : World} {K : PySem.W.Frag} {mg : Str → Option Value} {base : Heap}
def spFar : Sp := fun vs H Q _ => ∃ (wv pv : V) (W : Web) (x y : Nat), vs = [wv, pv] ∧ IsW H wv W ∧ Ok W ∧ IsP H pv (x, y) ∧ x < W.length ∧ y < W.length ∧ ∀ H', Sm H H' → Q (nI (dist W x y)) H'
theorem cal_far {f : Addr} {fd : FuncData} (F : C8.Def K mg "far" st_far f fd) (b : Binds K fd ["web", "pair"] []) (G : Glob mg) (c_rooms_from : C8.Cal P w K mg base 1 "rooms_from" spRoomsFrom []) : C8.Cal P w K mg base 2 "far" spFar [] := by
  refine C8.cal0 (k := 1) F b .nil sc_far (fun vs H Q E h => ?_) (fun cdv A outer s H vs Q E hr h => ?_)
  · obtain ⟨_, _, _, _, _, rfl, _⟩ := h
    rfl
  · obtain ⟨wv, pw, W, x, y, rfl, hW, ok, hp, hx, hy, q⟩ := h
    refine ⟨_, (pss_one (ps_ret (pe_dget (hu_of hr) (C8.pe_c c_rooms_from hr (by decide) (by rfl) (pa_cons (pv 0) (pa_cons (pe_ix ix_tup (pv 1) pe_int (fun _ _ => rfl)) pa_nil))) (pe_ix ix_tup (pv 1) pe_int (fun _ _ => rfl)) (fun _ _ => rfl)))), ?_⟩
    obtain ⟨pa, rfl, hpa⟩ := hp
    refine ⟨_, rfl, _, rfl, pa, _, 0, _, rfl, rfl, SqT.of hpa, rfl, wv, x, W, rfl, hW, ok, hx, fun H' p fs sm np hp ndk hm => ⟨_, rfl, pa, _, 1, _, rfl, rfl, SqT.of (sm.tk _ _ hpa), rfl, p, nI (dist W x y), rfl, ?_, q H' sm⟩⟩
    have z := DGet.k (k := Sum.inl (y : Int)) hp
    rwa [show valV (encR fs) (Sum.inl (y : Int)) = some (nI (dist W x y)) from val_some (f := fun x : Nat => (Sum.inl (x : Int) : Key)) inlN_inj (g := fun j : Nat => nI j) ndk ((hm y _).mpr (dist_is ok hx hy))] at z
def encN (ns : List (Nat × PE2)) : List (Key × V) := ns.map fun q => (Sum.inl (q.1 : Int), q.2.2.1)
structure NF (H : Hp) (W : Web) (a b : Nat) (p : Addr) (ns : List (Nat × PE2)) : Prop where
  at_ : H p = some (.dK (encN ns))
  nd : (ns.map Prod.fst).Nodup
  row : ∀ k e, (k, e) ∈ ns → IsR H e.2.1 e.2.2 ∧ Nr W a b k e.2.2.length ∧ go W a e.2.2 = some e.1.1 ∧ go W b e.2.2 = some e.1.2
  keys : ∀ k, k ∈ ns.map Prod.fst ↔ ∃ p, Rp W a b p ∧ pd W p = k
  key : ∀ k e, (k, e) ∈ ns → pd W e.1 = k
  ne : ns ≠ []
  small : ns.length ≤ 60
def spNear : Sp := fun vs H Q _ => ∃ (wv : V) (W : Web) (a b : Nat), vs = [wv, nI a, nI b] ∧ IsW H wv W ∧ Ok W ∧ a < W.length ∧ b < W.length ∧ Alike W a b ∧
  ∀ H' p ns, Sm H H' → H p = none → NF H' W a b p ns → Q (.ref p) H'
theorem cal_near_rows {f : Addr} {fd : FuncData} (F : C8.Def K mg "near_rows" st_near_rows f fd) (b : Binds K fd ["web", "one", "other"] []) (G : Glob mg) (c_pairs_from : C8.Cal P w K mg base 1 "pairs_from" spPairs []) (c_far : C8.Cal P w K mg base 2 "far" spFar []) : C8.Cal P w K mg base 3 "near_rows" spNear [] := by
  refine C8.cal0 (k := 2) F b .nil sc_near_rows (fun vs H Q E h => ?_) (fun cdv A outer s H vs Q E hr h => ?_)
  · obtain ⟨_, _, _, _, rfl, _⟩ := h
    rfl
  · obtain ⟨wv, W, a, b, rfl, hW, ok, ha, hb, al, q⟩ := h
    refine ⟨_, (pss_cons (ps_set (i := 3) sc_near_rows.nd rfl (.inl rfl) pe_dnewK)
    (pss_cons (ps_for PassesOwn.never rfl (pi_itemsT (C8.pe_c c_pairs_from hr (by decide) (by rfl) (pa_cons (pv 0) (pa_cons (pv 1) (pa_cons (pv 2) pa_nil))))) (pg_tup rfl (pgs_cons (pg_name (i := 4) sc_near_rows.nd rfl (.inl rfl)) (pgs_cons (pg_name (i := 5) sc_near_rows.nd rfl (.inl rfl)) pgs_nil))) 
      (pss_one (ps_expr (pe_dsetd (pv 3) (C8.pe_c c_far hr (by decide) (by rfl) (pa_cons (pv 0) (pa_cons (pv 4) pa_nil))) (pv 5) ⟨by rfl, by rfl, by rfl, by rfl⟩))))
    (pss_one (ps_ret (pv 3))))), ?_⟩
    refine fun d nd => ?_
    have s1 : Sm H (upd H d (.dK [])) := Sm.new nd
    have d1 : upd H d (.dK []) d = some (.dK []) := upd_same
    generalize upd H d (.dK []) = H1 at s1 d1 ⊢
    refine ⟨_, rfl, _, rfl, _, rfl, wv, W, a, b, rfl, hW.mono s1.tk, ok, ha, hb, al, fun H2 p es sm2 np pf => ⟨p, _, rfl, pf.at_, fun od => ?_⟩⟩
    have hdp : d ≠ p := fun z => by rw [← z, d1] at np; cases np
    have hd2 : H2 d = some (.dK []) := sm2.at_ d _ rfl d1
    have nHp : H p = none := s1.no p np
    have t3 : Tk H2 (upd H2 p (.frz od (.dT (encT es)))) := Tk.dT pf.at_
    have s3 : Sm H (upd H2 p (.frz od (.dT (encT es)))) := (s1.trans sm2).mut nHp
    have d3 : (upd H2 p (.frz od (.dT (encT es)))) d = some (.dK []) := by rw [upd_ne hdp]; exact hd2
    have p3 : (upd H2 p (.frz od (.dT (encT es)))) p = some (.frz od (.dT (encT es))) := upd_same
    have row3 : RowE (upd H2 p (.frz od (.dT (encT es)))) W a b es := pf.row.mono t3
    generalize upd H2 p (.frz od (.dT (encT es))) = H3 at s3 d3 p3 row3 ⊢
    have hpd : ∀ e ∈ es, Pl W a b e.2.2.length e.1 := fun e he => (pf.mem _ _).mp (List.mem_map.mpr ⟨e, he, rfl⟩)
    have hes : es.length ≤ 60 := by
      have n7 := ok.n7
      have n49 : (sq W.length).length ≤ 49 := by rw [len_sq]; exact Nat.mul_le_mul n7 n7
      have z := nd_le (es.map Prod.fst) (sq W.length) (by have z := pf.nd; rwa [lvE_fst] at z) fun x hx => by
        obtain ⟨e, h1, h2⟩ := List.mem_map.mp hx
        rw [← h2]
        exact mem_sq.mpr (lv_lt ok ha hb (hpd e h1).1)
      rw [List.length_map] at z
      omega
    refine for_itemsT (d := p) (od := od) (kvs := encT es) (fun i σ4 H4 => ∃ ns z4 z5, σ4 = [some wv, some (nI a), some (nI b), some (.ref d), z4, z5] ∧ Nb (fun e : PE2 => pd W e.1) (fun e => e.2.2.length) (es.take i) ns ∧ ns.length ≤ i ∧ H4 d = some (.dK (encN ns)) ∧ H4 p = some (.frz od (.dT (encT es))) ∧ RowE H4 W a b es ∧ Sm H H4)
      ⟨[], none, none, rfl, Nb.nil, Nat.le_refl _, d3, p3, row3, s3⟩ (fun i σ4 H4 h => by obtain ⟨_, _, _, _, _, _, _, h, _⟩ := h; exact h) (fun i k x qa T σ4 H4 hk h hT hq => ?_) (fun σ4 H4 h => ?_)
    · obtain ⟨ns, z4, z5, rfl, nb, nl, d4, p4, row4, s4⟩ := h
      have hi : i < es.length := by
        have z := lt_of_get hk
        unfold encT at z
        rwa [List.length_map] at z
      obtain ⟨e, he⟩ := get_of_lt hi
      have hee : (kP e.1, e.2.1) = (k, x) := by
        unfold encT at hk
        rw [List.getElem?_map, he] at hk
        exact Option.some.inj hk
      obtain ⟨ek, ex⟩ := Prod.mk.inj hee
      subst ek ex
      have hem := mem_of_get he
      have sT : Sm H4 (upd H4 T (.tup [.ref qa, e.2.1])) := Sm.new hT
      refine r_un2v upd_same ?_
      have dT := sT.at_ d _ rfl d4
      have pT := sT.at_ p _ rfl p4
      have rT := row4.mono sT.tk
      have s5 := s4.trans sT
      have hqT := sT.tk _ _ hq
      generalize upd H4 T (.tup [.ref qa, e.2.1]) = H5 at dT pT rT s5 hqT ⊢
      obtain ⟨hx, hy⟩ := lv_lt ok ha hb (hpd e hem).1
      refine ⟨_, rfl, d, rfl, .inl ⟨_, .inl dT⟩, _, rfl, _, rfl, wv, .ref qa, W, e.1.1, e.1.2, rfl, hW.mono s5.tk, ok, ⟨qa, rfl, hqT⟩, hx, hy, fun H6 s6 => ?_⟩
      have d6 := s6.at_ d _ rfl dT
      have tk6 : es.take (i + 1) = es.take i ++ [e] := by rw [List.take_add_one, he]; rfl
      have ho : ∀ e', e' ∈ es.take i → e'.2.2.length ≤ e.2.2.length := fun e' h' => by
        obtain ⟨j, hj, ej⟩ := get_of_mem h'
        have hji : j < i := by rw [List.length_take] at hj; omega
        rw [List.getElem?_take_of_lt hji] at ej
        have z := pf.ord
        unfold lvE at z
        rw [List.map_map] at z
        have h1 : (es.map (Prod.snd ∘ fun q : PE2 => (q.1, q.2.2.length)))[j]? = some e'.2.2.length := by rw [List.getElem?_map, ej]; rfl
        have h2 : (es.map (Prod.snd ∘ fun q : PE2 => (q.1, q.2.2.length)))[i]? = some e.2.2.length := by rw [List.getElem?_map, he]; rfl
        obtain ⟨l1, e1⟩ := List.getElem?_eq_some_iff.mp h1
        obtain ⟨l2, e2⟩ := List.getElem?_eq_some_iff.mp h2
        have z2 := List.pairwise_iff_getElem.mp z j i l1 l2 hji
        rwa [e1, e2] at z2
      refine ⟨_, rfl, encN ns, Sum.inl (dist W e.1.1 e.1.2 : Int), d6, rfl, by unfold encN; rw [List.length_map]; exact small1000 (by omega), fun v hv => ?_, fun hn => ?_⟩
      · have hin : pd W e.1 ∈ ns.map Prod.fst := by
          apply Classical.byContradiction
          intro hno
          have z := val_none (f := fun x : Nat => (Sum.inl (x : Int) : Key)) inlN_inj (g := fun z : PE2 => z.2.1) hno
          have z2 : valV (encN ns) (Sum.inl (dist W e.1.1 e.1.2 : Int)) = none := z
          rw [z2] at hv
          cases hv
        exact ⟨ns, _, _, rfl, by rw [tk6]; exact nb.old ho hin, by omega, d6, s6.at_ p _ rfl pT, rT.mono s6.tk, s5.trans s6⟩
      · have hno : pd W e.1 ∉ ns.map Prod.fst := fun hin => by
          obtain ⟨⟨k', e'⟩, h1, h2⟩ := List.mem_map.mp hin
          have h3 : k' = pd W e.1 := h2
          subst h3
          have z := val_some (f := fun x : Nat => (Sum.inl (x : Int) : Key)) inlN_inj (g := fun z : PE2 => z.2.1) nb.nd h1
          have z2 : valV (encN ns) (Sum.inl (dist W e.1.1 e.1.2 : Int)) = some e'.2.1 := z
          rw [z2] at hn
          cases hn
        rw [putK_new _ hn]
        have ee : encN ns ++ [(Sum.inl (dist W e.1.1 e.1.2 : Int), e.2.1)] = encN (ns ++ [(pd W e.1, e)]) := by unfold encN; rw [List.map_append]; rfl
        rw [ee]
        refine ⟨ns ++ [(pd W e.1, e)], _, _, rfl, by rw [tk6]; exact nb.new hno, by rw [List.length_append]; show ns.length + 1 ≤ i + 1; omega, upd_same, ?_, rT.mono (s6.tk.trans (Tk.dK d6)), (s5.trans s6).mut nd⟩
        rw [upd_ne hdp.symm]
        exact s6.at_ p _ rfl pT
    · obtain ⟨ns, z4, z5, rfl, nb, nl, d4, p4, row4, s4⟩ := h
      have hle : (encT es).length = es.length := by unfold encT; rw [List.length_map]
      rw [hle, List.take_length] at nb
      obtain ⟨n1, n2⟩ := nb.nr hpd fun k p hp => by
        have z := (pf.mem p k).mpr hp
        obtain ⟨e, h1, h2⟩ := List.mem_map.mp z
        exact ⟨e, h1, congrArg Prod.fst h2⟩
      refine ⟨_, rfl, q H4 d ns s4 nd ⟨d4, nb.nd, fun k e h => ?_, n2, fun k e h => (nb.at_ k e h).2.1, fun z => ?_, by omega⟩⟩
      · obtain ⟨h1, h2, h3⟩ := nb.at_ k e h
        obtain ⟨r1, r2, r3⟩ := row4 e h1
        exact ⟨r1, n1 k e h, r2, r3⟩
      · have z2 := (n2 (pd W (a, b))).mpr ⟨(a, b), rp_self, rfl⟩
        rw [z] at z2
        cases z2
end
end K2
namespace K2
open PySem PySem.Spec PyProof.Rows L2
abbrev st_is_number : Stmt := topS 12
theorem sc_is_number : FnScope ["value", "low", "high"] ["value", "low", "high"] (C8.fnScope st_is_number) := C8.fnScope_by (by decide +kernel)
-- slots: value=0 low=1 high=2

abbrev st_are_doors : Stmt := topS 13
theorem sc_are_doors : FnScope ["value", "rooms", "door"] ["value", "rooms"] (C8.fnScope st_are_doors) := C8.fnScope_by (by decide +kernel)
-- slots: value=0 rooms=1 door=2

abbrev st_leads_back : Stmt := topS 14
theorem sc_leads_back : FnScope ["web", "room", "number", "there", "back"] ["web", "room", "number"] (C8.fnScope st_leads_back) := C8.fnScope_by (by decide +kernel)
-- slots: web=0 room=1 number=2 there=3 back=4

abbrev st_need_room : Stmt := topS 17
theorem sc_need_room : FnScope ["web", "value"] ["web", "value"] (C8.fnScope st_need_room) := C8.fnScope_by (by decide +kernel)
-- slots: web=0 value=1

abbrev st_need_delay : Stmt := topS 19
theorem sc_need_delay : FnScope ["value"] ["value"] (C8.fnScope st_need_delay) := C8.fnScope_by (by decide +kernel)
-- slots: value=0

section
variable {P : Program} {w : World} {K : PySem.W.Frag} {mg : Str → Option Value} {base : Heap}
/-- is_number of a value of a known kind -/
def spIsNumber : Sp := fun vs H Q _ => ∃ (v : V) (lo hi : Int), vs = [v, .int lo, .int hi] ∧ ((∃ i, v = .int i ∧ ∀ b, (b = true ↔ lo ≤ i ∧ i ≤ hi) → Q (.bl b) H) ∨ (∃ n, n ≠ "int" ∧ Kd H v n ∧ Q (.bl false) H))
theorem cal_is_number {f : Addr} {fd : FuncData} (F : C8.Def K mg "is_number" st_is_number f fd) (b : Binds K fd ["value", "low", "high"] []) (G : Glob mg) : C8.Cal P w K mg base 1 "is_number" spIsNumber [] := by
  refine C8.cal0 (k := 0) F b .nil sc_is_number (fun vs H Q E h => ?_) (fun cdv A outer s H vs Q E hr h => ?_)
  · obtain ⟨_, _, _, rfl, _⟩ := h
    rfl
  · obtain ⟨v, lo, hi, rfl, h⟩ := h
    refine ⟨_, (pss_one (ps_ret (pe_and (pe_callB (id := "isinstance") call_isi (by rfl) G.isinstance (by decide +kernel) (pa_cons (pv 0) (pa_cons (pe_bltn (v := .ty "int") (by rfl) G.int (by decide +kernel) rfl) pa_nil))) (pe_and (pe_not (pe_callB (id := "isinstance") call_isi (by rfl) G.isinstance (by decide +kernel) (pa_cons (pv 0) (pa_cons (pe_bltn (v := .ty "bool") (by rfl) G.bool (by decide +kernel) rfl) pa_nil)))) (pe_one (pe_chain op_le op_le (pv 1) (pv 0) (pv 2))))))), ?_⟩
    rcases h with ⟨i, rfl, q⟩ | ⟨n, hn, k, q⟩
    · refine r_isiV rfl (.int i) rfl ⟨true, rfl, iteT (r_isiV rfl (.int i) rfl ⟨false, rfl, true, rfl, iteT ⟨_, rfl, _, rfl, ?_⟩⟩)⟩
      refine ⟨lo, i, rfl, rfl, decide (lo ≤ i), rfl, ?_⟩
      by_cases h1 : lo ≤ i
      · rw [decide_eq_true h1]
        refine iteT ⟨_, rfl, i, hi, rfl, rfl, q _ ?_⟩
        rw [decide_eq_true_iff]
        exact ⟨fun z => ⟨h1, z⟩, fun z => z.2⟩
      · rw [decide_eq_false h1]
        exact iteF (q _ ⟨fun z => absurd z Bool.false_ne_true, fun h => absurd h.1 h1⟩)
    · cases k with
      | int i => exact absurd rfl hn
      | bl b => exact r_isiV rfl (.bl b) rfl ⟨true, rfl, iteT (r_isiV rfl (.bl b) rfl ⟨true, rfl, false, rfl, iteF q⟩)⟩
      | non => exact r_isiV rfl .non rfl ⟨false, rfl, iteF q⟩
      | str z => exact r_isiV rfl (.str z) rfl ⟨false, rfl, iteF q⟩
      | lst e => exact r_isiV rfl (.lst e) rfl ⟨false, rfl, iteF q⟩
      | tup e => exact r_isiV rfl (.tup e) rfl ⟨false, rfl, iteF q⟩
      | dK e => exact r_isiV rfl (.dK e) rfl ⟨false, rfl, iteF q⟩
def spAreDoors : Sp := fun vs H Q _ => ∃ (v : V) (n : Nat) (ds : List (Nat × Nat)), vs = [v, nI n] ∧ IsPs H v ds ∧ 1 ≤ ds.length ∧ ds.length ≤ 4 ∧ (∀ p ∈ ds, p.1 < n ∧ p.2 < 4) ∧ Q (.bl true) H
theorem cal_are_doors {f : Addr} {fd : FuncData} (F : C8.Def K mg "are_doors" st_are_doors f fd) (b : Binds K fd ["value", "rooms"] []) (G : Glob mg) (c_is_number : C8.Cal P w K mg base 1 "is_number" spIsNumber []) : C8.Cal P w K mg base 2 "are_doors" spAreDoors [] := by
  refine C8.cal0 (k := 1) F b .nil sc_are_doors (fun vs H Q E h => ?_) (fun cdv A outer s H vs Q E hr h => ?_)
  · obtain ⟨_, _, _, rfl, _⟩ := h
    rfl
  · obtain ⟨v, n, ds, rfl, hv, h1, h4, hp, q⟩ := h
    refine ⟨_, (pss_cons (ps_if (PW.pt (pw_or (pt_not (pt_val (pe_callB (id := "isinstance") call_isi (by rfl) G.isinstance (by decide +kernel) (pa_cons (pv 0) (pa_cons (pe_bltn (v := .ty "tuple") (by rfl) G.tuple (by decide +kernel) rfl) pa_nil))))) (pw_or1 (pt_not (pt_chain op_le op_le pe_int (pe_callB (id := "len") call_len_seq (by rfl) G.len (by decide +kernel) (pa_cons (pv 0) pa_nil)) (C8.pe_gc (by rfl) G.MOST_DOORS)))))) 
      (pss_one (ps_ret pe_bl)) pss_nil)
    (pss_cons (ps_for PassesOwn.never rfl (pi_tup (pv 0)) (pg_name (i := 2) sc_are_doors.nd rfl (.inl rfl)) 
      (pss_cons (ps_if (PW.pt (pw_or (pt_not (pt_val (pe_callB (id := "isinstance") call_isi (by rfl) G.isinstance (by decide +kernel) (pa_cons (pv 2) (pa_cons (pe_bltn (v := .ty "tuple") (by rfl) G.tuple (by decide +kernel) rfl) pa_nil))))) (pw_or1 (pt_cmpR op_ne (pe_callB (id := "len") call_len_seq (by rfl) G.len (by decide +kernel) (pa_cons (pv 2) pa_nil)) pe_int (nomark _))))) 
        (pss_one (ps_ret pe_bl)) pss_nil)
      (pss_one (ps_if (PW.pt (pw_or (pt_not (pt_val (C8.pe_c c_is_number hr (by decide) (by rfl) (pa_cons (pe_ix ix_tup (pv 2) pe_int (fun _ _ => rfl)) (pa_cons pe_int (pa_cons (pe_op op_sub (pv 1) pe_int) pa_nil)))))) (pw_or1 (pt_not (pt_val (C8.pe_c c_is_number hr (by decide) (by rfl) (pa_cons (pe_ix ix_tup (pv 2) pe_int (fun _ _ => rfl)) (pa_cons pe_int (pa_cons (pe_op op_sub (C8.pe_gc (by rfl) G.MOST_DOORS) pe_int) pa_nil))))))))) 
        (pss_one (ps_ret pe_bl)) pss_nil))))
    (pss_one (ps_ret pe_bl)))), ?_⟩
    obtain ⟨a, dvs, rfl, ha, pr⟩ := hv
    have hl := pr.length
    refine r_isiV rfl (.tup ha) rfl ⟨_, rfl, iteF ?_⟩
    refine ⟨_, rfl, a, dvs, rfl, .inr (SqT.of ha), ?_⟩
    refine ⟨1, _, rfl, rfl, _, rfl, ifT (decide_eq_true (by show (1 : Int) ≤ (dvs.length : Int); omega)) ?_⟩
    refine ⟨_, 4, rfl, rfl, _, rfl, ifF (by show (!decide ((dvs.length : Int) ≤ 4)) = false; rw [decide_eq_true (by omega)]; rfl) ?_⟩
    refine ⟨_, rfl, a, rfl, ⟨_, SqT.of ha⟩, for_tup (xs := dvs) (fun i σ1 H1 => H1 = H ∧ ∃ x, σ1 = [some (.ref a), some (nI n), x]) ⟨rfl, none, rfl⟩ (fun i σ1 H1 _ h => by rw [h.1]; exact SqT.of ha) (fun i x σ1 H1 hx h => ?_) (fun σ1 H1 h => ?_)⟩
    · obtain ⟨rfl, y, rfl⟩ := h
      obtain ⟨⟨t, bk⟩, ep, hpp⟩ := pget1 pr hx
      obtain ⟨ht, hb⟩ := hp _ (mem_of_get ep)
      obtain ⟨pa, rfl, hpa⟩ := hpp
      refine r_isiV rfl (.tup hpa) rfl ⟨_, rfl, iteF ?_⟩
      refine ⟨_, rfl, pa, _, rfl, .inr (SqT.of hpa), rfl, _, rfl, iteF ?_⟩
      refine ⟨_, rfl, pa, _, 0, _, rfl, rfl, SqT.of hpa, rfl, _, rfl, _, _, rfl, rfl, _, _, _, rfl, .inl ⟨_, rfl, fun b hb2 => ?_⟩⟩
      obtain rfl : b = true := hb2.mpr ⟨by show (0 : Int) ≤ (t : Int); omega, by show (t : Int) ≤ (n : Int) - 1; omega⟩
      refine ⟨true, rfl, iteF ?_⟩
      refine ⟨_, rfl, pa, _, 1, _, rfl, rfl, SqT.of hpa, rfl, _, _, rfl, rfl, _, _, _, rfl, .inl ⟨_, rfl, fun b hb3 => ?_⟩⟩
      obtain rfl : b = true := hb3.mpr ⟨by show (0 : Int) ≤ (bk : Int); omega, by show (bk : Int) ≤ 4 - 1; omega⟩
      exact ⟨true, rfl, iteF ⟨rfl, _, rfl⟩⟩
    · obtain ⟨rfl, y, rfl⟩ := h
      exact q
def spLeads : Sp := fun vs H Q _ => ∃ (wv : V) (W : Web) (r d : Nat), vs = [wv, nI r, nI d] ∧ IsW H wv W ∧ Ok W ∧ r < W.length ∧ d < deg W r ∧ ∀ H', Sm H H' → Q (.bl true) H'
theorem cal_leads_back {f : Addr} {fd : FuncData} (F : C8.Def K mg "leads_back" st_leads_back f fd) (b : Binds K fd ["web", "room", "number"] []) (G : Glob mg) : C8.Cal P w K mg base 1 "leads_back" spLeads [] := by
  refine C8.cal0 (k := 0) F b .nil sc_leads_back (fun vs H Q E h => ?_) (fun cdv A outer s H vs Q E hr h => ?_)
  · obtain ⟨_, _, _, _, rfl, _⟩ := h
    rfl
  · obtain ⟨wv, W, r, d, rfl, hW, ok, hr0, hd, q⟩ := h
    refine ⟨_, (pss_cons (ps_asg (pe_ix ix_tup (pe_ix ix_tup (pv 0) (pv 1) (fun _ _ => rfl)) (pv 2) (fun _ _ => rfl)) (pg_tup rfl (pgs_cons (pg_name (i := 3) sc_leads_back.nd rfl (.inl rfl)) (pgs_cons (pg_name (i := 4) sc_leads_back.nd rfl (.inl rfl)) pgs_nil))))
    (pss_one (ps_ret (pe_and (pe_cmpR op_ne (pv 3) (pv 1) (nomark _)) (pe_and (pe_cmpR op_lt (pv 4) (pe_callB (id := "len") call_len_seq (by rfl) G.len (by decide +kernel) (pa_cons (pe_ix ix_tup (pv 0) (pv 3) (fun _ _ => rfl)) pa_nil)) (nomark _)) (pe_one (pe_cmpR (op_eqD hr.units) (pe_ix ix_tup (pe_ix ix_tup (pv 0) (pv 3) (fun _ _ => rfl)) (pv 4) (fun _ _ => rfl)) (pe_tup (pa_cons (pv 1) (pa_cons (pv 2) pa_nil))) (nomark _)))))))), ?_⟩
    obtain ⟨⟨t, bk⟩, ed⟩ := door_of_lt hd
    obtain ⟨hne, hb⟩ := ok.back _ _ _ _ ed
    have ht := ok.to ed
    refine ⟨_, rfl, _, rfl, r_web hW hr0 fun ds dv e1 hds => ?_⟩
    refine ⟨_, rfl, r_ps hds (by rw [← door_at e1]; exact ed) fun pv hp => ?_⟩
    refine r_un2 hp ?_
    refine ⟨_, rfl, _, rfl, rfl, _, rfl, ifT (ne_yes hne) ?_⟩
    refine ⟨_, rfl, _, rfl, _, rfl, r_web hW ht fun ds2 dv2 e2 hds2 => ?_⟩
    obtain ⟨da, dvs, rfl, hda, pds⟩ := hds2
    have hl := pds.length
    have hbk : bk < ds2.length := by rw [door_at e2] at hb; exact lt_of_get hb
    refine ⟨da, dvs, rfl, .inr (SqT.of hda), _, _, rfl, rfl, _, rfl, ifT (decide_eq_true (by show (bk : Int) < (dvs.length : Int); omega)) ?_⟩
    refine ⟨_, rfl, _, rfl, r_web hW ht fun ds3 dv3 e3 hds3 => ⟨_, rfl, r_ps hds3 (by rw [← door_at e3]; exact hb) fun pv2 hp2 => ?_⟩⟩
    refine ⟨_, rfl, _, rfl, by show 2 ≤ sizeLine; decide, fun p np => ?_⟩
    have hp3 : IsP (upd H p (.tup [nI r, nI d])) (.ref p) (r, d) := ⟨p, rfl, upd_same⟩
    refine ⟨_, _, dp_pair (hp2.mono (Tk.new np)), dp_pair hp3, sh_pair _, sh_pair _, ?_⟩
    rw [eqv_pair, decide_eq_true rfl]
    exact q _ (Sm.new np)
def spNeedRoom : Sp := fun vs H Q _ => ∃ (wv : V) (W : Web) (r : Nat), vs = [wv, nI r] ∧ IsW H wv W ∧ r < W.length ∧ Q .non H
theorem cal_need_room {f : Addr} {fd : FuncData} (F : C8.Def K mg "need_room" st_need_room f fd) (b : Binds K fd ["web", "value"] []) (G : Glob mg) (c_is_number : C8.Cal P w K mg base 1 "is_number" spIsNumber []) : C8.Cal P w K mg base 2 "need_room" spNeedRoom [] := by
  refine C8.cal0 (k := 1) F b .nil sc_need_room (fun vs H Q E h => ?_) (fun cdv A outer s H vs Q E hr h => ?_)
  · obtain ⟨_, _, _, rfl, _⟩ := h
    rfl
  · obtain ⟨wv, W, r, rfl, hW, hr0, q⟩ := h
    refine ⟨_, (pss_one (ps_if (pt_not (pt_val (C8.pe_c c_is_number hr (by decide) (by rfl) (pa_cons (pv 1) (pa_cons pe_int (pa_cons (pe_op op_sub (pe_callB (id := "len") call_len_seq (by rfl) G.len (by decide +kernel) (pa_cons (pv 0) pa_nil)) pe_int) pa_nil)))))) 
      (pss_one ps_never) pss_nil)), ?_⟩
    obtain ⟨wa, wvs, rfl, hwa, pw⟩ := hW
    have hl := pw.length
    refine ⟨_, rfl, _, rfl, wa, wvs, rfl, .inr (SqT.of hwa), _, _, rfl, rfl, _, _, _, rfl, .inl ⟨_, rfl, fun b hb => ?_⟩⟩
    obtain rfl : b = true := hb.mpr ⟨by omega, by show (r : Int) ≤ (wvs.length : Int) - 1; omega⟩
    exact ⟨true, rfl, iteF q⟩
def spNeedDelay : Sp := fun vs H Q _ => ∃ d : Nat, vs = [nI d] ∧ d ≤ 20 ∧ Q .non H
theorem cal_need_delay {f : Addr} {fd : FuncData} (F : C8.Def K mg "need_delay" st_need_delay f fd) (b : Binds K fd ["value"] []) (G : Glob mg) (c_is_number : C8.Cal P w K mg base 1 "is_number" spIsNumber []) : C8.Cal P w K mg base 2 "need_delay" spNeedDelay [] := by
  refine C8.cal0 (k := 1) F b .nil sc_need_delay (fun vs H Q E h => ?_) (fun cdv A outer s H vs Q E hr h => ?_)
  · obtain ⟨_, rfl, _⟩ := h
    rfl
  · obtain ⟨d, rfl, hd, q⟩ := h
    refine ⟨_, (pss_one (ps_if (pt_not (pt_val (C8.pe_c c_is_number hr (by decide) (by rfl) (pa_cons (pv 0) (pa_cons pe_int (pa_cons (C8.pe_gc (by rfl) G.MOST_DELAY) pa_nil)))))) 
      (pss_one ps_never) pss_nil)), ?_⟩
    refine ⟨_, rfl, _, _, _, rfl, .inl ⟨_, rfl, fun b hb => ?_⟩⟩
    obtain rfl : b = true := hb.mpr ⟨by omega, by omega⟩
    exact ⟨true, rfl, iteF q⟩
end
end K2
namespace K2
open PySem PySem.Spec PyProof.Rows L2
abbrev st_least_delay_of : Stmt := topS 32
theorem sc_least_delay_of : FnScope ["web", "one", "other", "found"] ["web", "one", "other"] (C8.fnScope st_least_delay_of) := C8.fnScope_by (by decide +kernel)
-- slots: web=0 one=1 other=2 found=3

abbrev st_need_two : Stmt := topS 18
theorem sc_need_two : FnScope ["web", "one", "other"] ["web", "one", "other"] (C8.fnScope st_need_two) := C8.fnScope_by (by decide +kernel)
-- slots: web=0 one=1 other=2

abbrev st_least_delay : Stmt := topS 33
theorem sc_least_delay : FnScope ["web", "one", "other"] ["web", "one", "other"] (C8.fnScope st_least_delay) := C8.fnScope_by (by decide +kernel)
-- slots: web=0 one=1 other=2

abbrev st_can_meet : Stmt := topS 34
theorem sc_can_meet : FnScope ["web", "one", "other", "delay"] ["web", "one", "other", "delay"] (C8.fnScope st_can_meet) := C8.fnScope_by (by decide +kernel)
-- slots: web=0 one=1 other=2 delay=3

abbrev st_barring_lot : Stmt := topS 36
theorem sc_barring_lot : FnScope ["web", "one", "other", "delay"] ["web", "one", "other", "delay"] (C8.fnScope st_barring_lot) := C8.fnScope_by (by decide +kernel)
-- slots: web=0 one=1 other=2 delay=3

abbrev st_worst_delay : Stmt := topS 35
theorem sc_worst_delay : FnScope ["web", "many", "one", "other"] ["web"] (C8.fnScope st_worst_delay) := C8.fnScope_by (by decide +kernel)
-- slots: web=0 many=1 one=2 other=3

theorem shr_min {W : Web} {a b : Nat} {H : Hp} {p : Addr} {ns : List (Nat × PE2)} (nf : NF H W a b p ns) {m : Nat} (h1 : m ∈ ns.map Prod.fst) (h2 : ∀ j ∈ ns.map Prod.fst, m ≤ j) : shr W a b = m := by
  refine shr_of ⟨(nf.keys m).mp h1, fun q hq => h2 _ ((nf.keys _).mpr ⟨q, hq, rfl⟩)⟩
theorem r_minNear {W : Web} {a b : Nat} {H : Hp} {p : Addr} {ns : List (Nat × PE2)} {Q : VK} (nf : NF H W a b p ns) (q : Q (nI (shr W a b)) H) : rMinK [V.ref p] H Q := by
  refine ⟨p, encN ns, ns.map (fun z => (z.1 : Int)), rfl, nf.at_, by unfold encN; rw [List.map_map, List.map_map]; rfl, fun z => nf.ne (List.map_eq_nil_iff.mp z), fun m hm hl => ?_⟩
  obtain ⟨e, he, rfl⟩ := List.mem_map.mp hm
  have z := shr_min nf (m := e.1) (List.mem_map.mpr ⟨e, he, rfl⟩) fun j hj => by
    obtain ⟨f, hf, rfl⟩ := List.mem_map.mp hj
    have := hl _ (List.mem_map.mpr ⟨f, hf, rfl⟩)
    omega
  rw [← z]
  exact q
section
variable {Tl : List Addr} {P : Program} {w : World} {K : PySem.W.Frag} {mg : Str → Option Value} {base : Heap}
def spLdo : Sp := fun vs H Q _ => ∃ (wv : V) (W : Web) (a b : Nat), vs = [wv, nI a, nI b] ∧ IsW H wv W ∧ Ok W ∧ a < W.length ∧ b < W.length ∧ ∀ H', Sm H H' → Q (nI (ldl W a b)) H'
theorem cal_least_delay_of {f : Addr} {fd : FuncData} (F : C8.Def K mg "least_delay_of" st_least_delay_of f fd) (b : Binds K fd ["web", "one", "other"] []) (G : Glob mg) (c_lots_of : C8.Cal P w K mg base 1 "lots_of" spLots []) (c_near_rows : C8.Cal P w K mg base 3 "near_rows" spNear []) : C8.Cal P w K mg base 4 "least_delay_of" spLdo [] := by
  refine C8.cal0 (k := 3) F b .nil sc_least_delay_of (fun vs H Q E h => ?_) (fun cdv A outer s H vs Q E hr h => ?_)
  · obtain ⟨_, _, _, _, rfl, _⟩ := h
    rfl
  · obtain ⟨wv, W, a, b, rfl, hW, ok, ha, hb, q⟩ := h
    refine ⟨_, (pss_cons (ps_set (i := 3) sc_least_delay_of.nd rfl (.inl rfl) (C8.pe_c c_lots_of hr (by decide) (by rfl) (pa_cons (pv 0) pa_nil)))
    (pss_one (ps_ret (pe_ifExp (pt_cmpR op_eq (pe_ix ix_list (pv 3) (pv 1) (fun _ _ => rfl)) (pe_ix ix_list (pv 3) (pv 2) (fun _ _ => rfl)) (nomark _)) (pe_callB (id := "min") (cr_minK rfl) (by rfl) G.min (by decide +kernel) (pa_cons (C8.pe_c c_near_rows hr (by decide) (by rfl) (pa_cons (pv 0) (pa_cons (pv 1) (pa_cons (pv 2) pa_nil)))) pa_nil)) pe_int)))), ?_⟩
    refine ⟨_, rfl, wv, W, rfl, hW, ok, fun H1 p l sm np hp hl hal => ?_⟩
    have g : ∀ r, r < W.length → (l.map nI)[r]? = some (nI (l.getD r 0)) := fun r hr => by
      have h : r < l.length := by omega
      rw [List.getElem?_map, List.getD_eq_getElem?_getD, List.getElem?_eq_getElem h]; rfl
    refine ⟨_, rfl, _, rfl, r_ixL hp (g a ha) ⟨_, rfl, _, rfl, r_ixL hp (g b hb) ⟨rfl, _, rfl, ?_⟩⟩⟩
    by_cases h : Alike W a b
    · refine ifT (eq_yes ((hal a b ha hb).mpr h)) ⟨_, rfl, _, rfl, _, rfl, wv, W, a, b, rfl, hW.mono sm.tk, ok, ha, hb, h, fun H2 p2 ns sm2 np2 nf => ?_⟩
      refine r_minNear nf ?_
      rw [← ldl_yes h]
      exact q H2 (sm.trans sm2)
    · refine ifF (eq_no fun e => h ((hal a b ha hb).mp e)) ?_
      have z := q H1 sm
      rw [ldl_no h] at z
      exact z
def spNeedWeb (Tl : List Addr) : Sp := fun vs H Q _ => ∃ (wv : V) (W : Web), vs = [wv] ∧ IsW H wv W ∧ Ok W ∧ Tbs Tl H ∧ ∀ H', Sm H H' → Q .non H'
def spNeedTwo (Tl : List Addr) : Sp := fun vs H Q _ => ∃ (wv : V) (W : Web) (a b : Nat), vs = [wv, nI a, nI b] ∧ IsW H wv W ∧ Ok W ∧ Tbs Tl H ∧ a < W.length ∧ b < W.length ∧ a ≠ b ∧ ∀ H', Sm H H' → Q .non H'
theorem cal_need_two {f : Addr} {fd : FuncData} (F : C8.Def K mg "need_two" st_need_two f fd) (b : Binds K fd ["web", "one", "other"] []) (G : Glob mg) (c_need_web : C8.Cal P w K mg base 6 "need_web" (spNeedWeb Tl) []) (c_need_room : C8.Cal P w K mg base 2 "need_room" spNeedRoom []) : C8.Cal P w K mg base 7 "need_two" (spNeedTwo Tl) [] := by
  refine C8.cal0 (k := 6) F b .nil sc_need_two (fun vs H Q E h => ?_) (fun cdv A outer s H vs Q E hr h => ?_)
  · obtain ⟨_, _, _, _, rfl, _⟩ := h
    rfl
  · obtain ⟨wv, W, a, b, rfl, hW, ok, hT, ha, hb, hne, q⟩ := h
    refine ⟨_, (pss_cons (ps_expr (C8.pe_c c_need_web hr (by decide) (by rfl) (pa_cons (pv 0) pa_nil)))
    (pss_cons (ps_expr (C8.pe_c c_need_room hr (by decide) (by rfl) (pa_cons (pv 0) (pa_cons (pv 1) pa_nil))))
    (pss_cons (ps_expr (C8.pe_c c_need_room hr (by decide) (by rfl) (pa_cons (pv 0) (pa_cons (pv 2) pa_nil))))
    (pss_one (ps_if (pt_cmpR op_eq (pv 1) (pv 2) (nomark _)) 
      (pss_one ps_never) pss_nil))))), ?_⟩
    refine ⟨_, rfl, wv, W, rfl, hW, ok, hT, fun H1 sm => ⟨_, rfl, _, rfl, wv, W, a, rfl, hW.mono sm.tk, ha, _, rfl, _, rfl, wv, W, b, rfl, hW.mono sm.tk, hb, ?_⟩⟩
    exact ⟨_, rfl, _, rfl, rfl, _, rfl, ifF (eq_no hne) (q H1 sm)⟩
theorem cal_least_delay {f : Addr} {fd : FuncData} (F : C8.Def K mg "least_delay" st_least_delay f fd) (b : Binds K fd ["web", "one", "other"] []) (G : Glob mg) (c_need_two : C8.Cal P w K mg base 7 "need_two" (spNeedTwo Tl) []) (c_least_delay_of : C8.Cal P w K mg base 4 "least_delay_of" spLdo []) :
    C8.Cal P w K mg base 8 "least_delay" (fun vs H Q E => ∃ (wv : V) (W : Web) (a b : Nat), vs = [wv, nI a, nI b] ∧ IsW H wv W ∧ Ok W ∧ Tbs Tl H ∧ a < W.length ∧ b < W.length ∧ a ≠ b ∧ ∀ H', Sm H H' → Q (nI (ldl W a b)) H') [] := by
  refine C8.cal0 (k := 7) F b .nil sc_least_delay (fun vs H Q E h => ?_) (fun cdv A outer s H vs Q E hr h => ?_)
  · obtain ⟨_, _, _, _, rfl, _⟩ := h
    rfl
  · obtain ⟨wv, W, a, b, rfl, hW, ok, hT, ha, hb, hne, q⟩ := h
    refine ⟨_, (pss_cons (ps_expr (C8.pe_c c_need_two hr (by decide) (by rfl) (pa_cons (pv 0) (pa_cons (pv 1) (pa_cons (pv 2) pa_nil)))))
    (pss_one (ps_ret (C8.pe_c c_least_delay_of hr (by decide) (by rfl) (pa_cons (pv 0) (pa_cons (pv 1) (pa_cons (pv 2) pa_nil))))))), ?_⟩
    exact ⟨_, rfl, _, rfl, _, rfl, wv, W, a, b, rfl, hW, ok, hT, ha, hb, hne, fun H1 sm => ⟨_, rfl, _, rfl, _, rfl, wv, W, a, b, rfl, hW.mono sm.tk, ok, ha, hb, fun H2 sm2 => q H2 (sm.trans sm2)⟩⟩
def spCanMeet (Tl : List Addr) : Sp := fun vs H Q _ => ∃ (wv : V) (W : Web) (a b d : Nat), vs = [wv, nI a, nI b, nI d] ∧ IsW H wv W ∧ Ok W ∧ Tbs Tl H ∧ a < W.length ∧ b < W.length ∧ a ≠ b ∧ d ≤ 20 ∧ ∀ H', Sm H H' → Q (.bl (decide (((ldl W a b : Nat) : Int) ≤ (d : Int)))) H'
theorem cal_can_meet {f : Addr} {fd : FuncData} (F : C8.Def K mg "can_meet" st_can_meet f fd) (b : Binds K fd ["web", "one", "other", "delay"] []) (G : Glob mg) (c_need_two : C8.Cal P w K mg base 7 "need_two" (spNeedTwo Tl) []) (c_need_delay : C8.Cal P w K mg base 2 "need_delay" spNeedDelay []) (c_least_delay_of : C8.Cal P w K mg base 4 "least_delay_of" spLdo []) : C8.Cal P w K mg base 8 "can_meet" (spCanMeet Tl) [] := by
  refine C8.cal0 (k := 7) F b .nil sc_can_meet (fun vs H Q E h => ?_) (fun cdv A outer s H vs Q E hr h => ?_)
  · obtain ⟨_, _, _, _, _, rfl, _⟩ := h
    rfl
  · obtain ⟨wv, W, a, b, d, rfl, hW, ok, hT, ha, hb, hne, hd, q⟩ := h
    refine ⟨_, (pss_cons (ps_expr (C8.pe_c c_need_two hr (by decide) (by rfl) (pa_cons (pv 0) (pa_cons (pv 1) (pa_cons (pv 2) pa_nil)))))
    (pss_cons (ps_expr (C8.pe_c c_need_delay hr (by decide) (by rfl) (pa_cons (pv 3) pa_nil)))
    (pss_one (ps_ret (pe_cmpR op_le (C8.pe_c c_least_delay_of hr (by decide) (by rfl) (pa_cons (pv 0) (pa_cons (pv 1) (pa_cons (pv 2) pa_nil)))) (pv 3) (nomark _)))))), ?_⟩
    exact ⟨_, rfl, _, rfl, _, rfl, wv, W, a, b, rfl, hW, ok, hT, ha, hb, hne, fun H1 sm => ⟨_, rfl, d, rfl, hd, _, rfl, _, rfl, _, rfl, wv, W, a, b, rfl, hW.mono sm.tk, ok, ha, hb, fun H2 sm2 => ⟨_, rfl, _, _, rfl, rfl, q H2 (sm.trans sm2)⟩⟩⟩
/-- the pairs in order -/
def Asc (l : List (Nat × Nat)) : Prop := l.Pairwise fun a b => a.1 < b.1 ∨ (a.1 = b.1 ∧ a.2 < b.2)
def spBar (Tl : List Addr) : Sp := fun vs H Q _ => ∃ (wv : V) (W : Web) (a b d : Nat), vs = [wv, nI a, nI b, nI d] ∧ IsW H wv W ∧ Ok W ∧ Tbs Tl H ∧ a < W.length ∧ b < W.length ∧ a ≠ b ∧ d ≤ 20 ∧
  (ldl W a b ≤ d → ∀ H', Sm H H' → Q .non H') ∧ (d < ldl W a b → ∀ H' p l, Sm H H' → H p = none → IsPs H' (.ref p) l → Asc l → (∀ x, x ∈ l ↔ Rp W a b x) → Q (.ref p) H')
theorem cal_barring_lot {f : Addr} {fd : FuncData} (F : C8.Def K mg "barring_lot" st_barring_lot f fd) (b : Binds K fd ["web", "one", "other", "delay"] []) (G : Glob mg) (c_need_two : C8.Cal P w K mg base 7 "need_two" (spNeedTwo Tl) []) (c_need_delay : C8.Cal P w K mg base 2 "need_delay" spNeedDelay []) (c_least_delay_of : C8.Cal P w K mg base 4 "least_delay_of" spLdo []) (c_pairs_from : C8.Cal P w K mg base 1 "pairs_from" spPairs []) : C8.Cal P w K mg base 8 "barring_lot" (spBar Tl) [] := by
  refine C8.cal0 (k := 7) F b .nil sc_barring_lot (fun vs H Q E h => ?_) (fun cdv A outer s H vs Q E hr h => ?_)
  · obtain ⟨_, _, _, _, _, rfl, _⟩ := h
    rfl
  · obtain ⟨wv, W, a, b, d, rfl, hW, ok, hT, ha, hb, hne, hd, q1, q2⟩ := h
    refine ⟨_, (pss_cons (ps_expr (C8.pe_c c_need_two hr (by decide) (by rfl) (pa_cons (pv 0) (pa_cons (pv 1) (pa_cons (pv 2) pa_nil)))))
    (pss_cons (ps_expr (C8.pe_c c_need_delay hr (by decide) (by rfl) (pa_cons (pv 3) pa_nil)))
    (pss_cons (ps_if (pt_cmpR op_le (C8.pe_c c_least_delay_of hr (by decide) (by rfl) (pa_cons (pv 0) (pa_cons (pv 1) (pa_cons (pv 2) pa_nil)))) (pv 3) (nomark _)) 
      (pss_one (ps_ret pe_non)) pss_nil)
    (pss_one (ps_ret (pe_tupleOf (by rfl) G.tuple (pe_callB (id := "sorted") (cr_sortedDT rfl) (by rfl) G.sorted (by decide +kernel) (pa_cons (C8.pe_c c_pairs_from hr (by decide) (by rfl) (pa_cons (pv 0) (pa_cons (pv 1) (pa_cons (pv 2) pa_nil)))) pa_nil)))))))), ?_⟩
    refine ⟨_, rfl, _, rfl, _, rfl, wv, W, a, b, rfl, hW, ok, hT, ha, hb, hne, fun H1 sm => ⟨_, rfl, d, rfl, hd, _, rfl, _, rfl, _, rfl, wv, W, a, b, rfl, hW.mono sm.tk, ok, ha, hb, fun H2 sm2 => ⟨_, rfl, _, _, rfl, rfl, _, rfl, ?_⟩⟩⟩
    have s2 := sm.trans sm2
    by_cases h : ldl W a b ≤ d
    · exact ifT (le_yes h) (q1 h H2 s2)
    · have al : Alike W a b := by
        apply Classical.byContradiction
        intro z
        rw [ldl_no z] at h
        omega
      refine ifF (le_no h) ⟨_, rfl, _, rfl, _, rfl, wv, W, a, b, rfl, hW.mono s2.tk, ok, ha, hb, al, fun H3 p es sm3 np pf => ⟨p, encT es, rfl, .inl pf.at_, fun q hq => ?_, fun L bs nL pm srt hb3 => .inl ⟨L, _, rfl, SqL.of upd_same, fun tp ntp => ?_⟩⟩⟩
      · obtain ⟨e, _, rfl⟩ := List.mem_map.mp hq
        exact ⟨_, _, rfl⟩
      · have s3 := s2.trans sm3
        have s5 : Sm H3 (upd (upd H3 L (.lst (bs.map fun b => V.ref b.1))) tp (.tup (bs.map fun b => V.ref b.1))) := (Sm.new nL).add ntp
        obtain ⟨ntp2, _⟩ := upd_no ntp
        have back : ∀ b ∈ bs, ∃ e ∈ es, b.2 = ((e.1.1 : Int), (e.1.2 : Int)) := fun b hb => by
          have z := pm.mem_iff.mp (List.mem_map.mpr ⟨b, hb, rfl⟩)
          unfold encT at z
          rw [List.map_map] at z
          obtain ⟨e, he, e2⟩ := List.mem_map.mp z
          have e3 : kP e.1 = [Sum.inl b.2.1, Sum.inl b.2.2] := e2
          injection e3 with e4 e5
          injection e5 with e5 _
          exact ⟨e, he, Prod.ext (Sum.inl.inj e4).symm (Sum.inl.inj e5).symm⟩
        have hbm : ∀ b ∈ bs, b.2 = (((b.2.1.toNat : Nat) : Int), ((b.2.2.toNat : Nat) : Int)) := fun b hb => by
          obtain ⟨e, _, e2⟩ := back b hb
          rw [e2]
          rfl
        refine q2 (by omega) _ tp (bs.map fun b => (b.2.1.toNat, b.2.2.toNat)) (s3.trans s5) (s3.no tp ntp2) ⟨tp, _, rfl, upd_same, ?_⟩ ?_ fun x => ?_
        · have all : ∀ b ∈ bs, IsP (upd (upd H3 L (.lst (bs.map fun b => V.ref b.1))) tp (.tup (bs.map fun b => V.ref b.1))) (V.ref b.1) (b.2.1.toNat, b.2.2.toNat) := fun b hb => by
            refine ⟨b.1, rfl, s5.tk _ _ ?_⟩
            have z := hb3 b hb
            have z2 := hbm b hb
            rw [congrArg Prod.fst z2, congrArg Prod.snd z2] at z
            exact z
          generalize (upd (upd H3 L (.lst (bs.map fun b => V.ref b.1))) tp (.tup (bs.map fun b => V.ref b.1))) = Hz at all
          clear pm srt hb3 back hbm s5 ntp2 ntp
          induction bs with
          | nil => exact .nil
          | cons b r ih => exact .cons (all b List.mem_cons_self) (ih fun x hx => all x (List.mem_cons_of_mem _ hx))
        · -- in order: sorted, and no doubles
          have nd : ((bs.map fun b => (b.2.1.toNat, b.2.2.toNat))).Nodup := by
            have z := pf.nd
            rw [lvE_fst] at z
            have n1 : (es.map fun q => kP q.1).Nodup := by
              have e1 : (es.map fun q => kP q.1) = (es.map Prod.fst).map kP := by rw [List.map_map]; rfl
              rw [e1]
              exact List.pairwise_map.mpr (List.Pairwise.imp (fun h e => h (kP_inj _ _ e)) z)
            have e2 : (encT es).map Prod.fst = es.map fun q => kP q.1 := by unfold encT; rw [List.map_map]; rfl
            rw [← e2] at n1
            have n2 := (pm.nodup_iff).mpr n1
            have e3 : (bs.map fun b => [(Sum.inl b.2.1 : Key), Sum.inl b.2.2]) = (bs.map fun b => (b.2.1.toNat, b.2.2.toNat)).map kP := by
              rw [List.map_map]
              refine List.map_congr_left fun b hb => ?_
              have z2 := hbm b hb
              show [(Sum.inl b.2.1 : Key), Sum.inl b.2.2] = [Sum.inl ((b.2.1.toNat : Nat) : Int), Sum.inl ((b.2.2.toNat : Nat) : Int)]
              have w1 : b.2.1 = ((b.2.1.toNat : Nat) : Int) := congrArg Prod.fst z2
              have w2 : b.2.2 = ((b.2.2.toNat : Nat) : Int) := congrArg Prod.snd z2
              rw [← w1, ← w2]
            rw [e3] at n2
            exact List.Pairwise.imp (fun h e => h (by rw [e])) (List.pairwise_map.mp n2)
          refine List.pairwise_map.mpr ?_
          have nd2 := List.pairwise_map.mp nd
          have srt2 := List.pairwise_map.mp srt
          refine List.Pairwise.imp_of_mem (fun {x y} hx hy h => ?_) (nd2.and srt2)
          obtain ⟨h1, h2⟩ := h
          have h3 := SrtO.lexB_no.mp h2
          have zx := hbm x hx
          have zy := hbm y hy
          have x1 := congrArg Prod.fst zx
          have x2 := congrArg Prod.snd zx
          have y1 := congrArg Prod.fst zy
          have y2 := congrArg Prod.snd zy
          simp only at x1 x2 y1 y2 h3
          have h4 : ¬ (x.2.1.toNat = y.2.1.toNat ∧ x.2.2.toNat = y.2.2.toNat) := fun z => h1 (Prod.ext z.1 z.2)
          show x.2.1.toNat < y.2.1.toNat ∨ (x.2.1.toNat = y.2.1.toNat ∧ x.2.2.toNat < y.2.2.toNat)
          omega
        · constructor
          · intro hx
            obtain ⟨b, hb, rfl⟩ := List.mem_map.mp hx
            obtain ⟨e, he, e2⟩ := back b hb
            have e3 : (b.2.1.toNat, b.2.2.toNat) = e.1 := by rw [e2]; rfl
            rw [e3]
            exact ⟨e.2.2.length, (pf.mem _ _).mp (List.mem_map.mpr ⟨e, he, rfl⟩)⟩
          · rintro ⟨k, hk⟩
            obtain ⟨e, he, e2⟩ := List.mem_map.mp ((pf.mem _ _).mpr hk)
            have e3 : e.1 = x := congrArg Prod.fst e2
            have z : kP e.1 ∈ (encT es).map Prod.fst := List.mem_map.mpr ⟨_, List.mem_map.mpr ⟨e, he, rfl⟩, rfl⟩
            obtain ⟨b, hb, e4⟩ := List.mem_map.mp (pm.mem_iff.mpr z)
            injection e4 with e5 e6
            injection e6 with e6 _
            refine List.mem_map.mpr ⟨b, hb, ?_⟩
            rw [Sum.inl.inj e5, Sum.inl.inj e6, ← e3]
            rfl
/-- the pairs (i, j), j < i < n, in order -/
def Tri (n : Nat) (f : Nat → Nat → Nat) : List Nat := (List.range n).flatMap fun i => (List.range i).map fun j => f i j
theorem tri_succ (n : Nat) (f : Nat → Nat → Nat) : Tri (n + 1) f = Tri n f ++ (List.range n).map fun j => f n j := by
  unfold Tri
  rw [List.range_succ, List.flatMap_append]
  simp
theorem mem_tri {n : Nat} {f : Nat → Nat → Nat} {x : Nat} : x ∈ Tri n f ↔ ∃ i j, i < n ∧ j < i ∧ f i j = x := by
  unfold Tri
  rw [List.mem_flatMap]
  constructor
  · rintro ⟨i, hi, h⟩
    obtain ⟨j, hj, e⟩ := List.mem_map.mp h
    exact ⟨i, j, List.mem_range.mp hi, List.mem_range.mp hj, e⟩
  · rintro ⟨i, j, hi, hj, e⟩
    exact ⟨i, List.mem_range.mpr hi, List.mem_map.mpr ⟨j, List.mem_range.mpr hj, e⟩⟩
/-- the greatest -/
def Wst (W : Web) (m : Nat) : Prop := (∃ i j, i < W.length ∧ j < i ∧ ldl W i j = m) ∧ ∀ i j, i < W.length → j < i → ldl W i j ≤ m
theorem Wst.uniq {W : Web} {m n : Nat} (h : Wst W m) (g : Wst W n) : m = n := by
  obtain ⟨⟨i, j, h1, h2, h3⟩, h4⟩ := h
  obtain ⟨⟨k, l, g1, g2, g3⟩, g4⟩ := g
  have a := g4 i j h1 h2
  have b := h4 k l g1 g2
  omega
def spWorst (Tl : List Addr) : Sp := fun vs H Q _ => ∃ (wv : V) (W : Web), vs = [wv] ∧ IsW H wv W ∧ Ok W ∧ Tbs Tl H ∧ ∀ H' m, Sm H H' → Wst W m → Q (nI m) H'
theorem cal_worst_delay {f : Addr} {fd : FuncData} (F : C8.Def K mg "worst_delay" st_worst_delay f fd) (b : Binds K fd ["web"] []) (G : Glob mg) (c_need_web : C8.Cal P w K mg base 6 "need_web" (spNeedWeb Tl) []) (c_least_delay_of : C8.Cal P w K mg base 4 "least_delay_of" spLdo []) : C8.Cal P w K mg base 8 "worst_delay" (spWorst Tl) [] := by
  refine C8.cal0 (k := 7) F b .nil sc_worst_delay (fun vs H Q E h => ?_) (fun cdv A outer s H vs Q E hr h => ?_)
  · obtain ⟨_, _, rfl, _⟩ := h
    rfl
  · obtain ⟨wv, W, rfl, hW, ok, hT, q⟩ := h
    refine ⟨_, (pss_cons (ps_expr (C8.pe_c c_need_web hr (by decide) (by rfl) (pa_cons (pv 0) pa_nil)))
    (pss_cons (ps_set (i := 1) sc_worst_delay.nd rfl (.inl rfl) (pe_callB (id := "len") call_len_seq (by rfl) G.len (by decide +kernel) (pa_cons (pv 0) pa_nil)))
    (pss_one (ps_ret (pe_callB (id := "max") (cr_max rfl) (by rfl) G.max (by decide +kernel) (pa_cons (pe_lc2 (own := [("one", 2), ("other", 3)]) (g := gName 2) (tt := tYes) (g1 := gName 3) (tt1 := tYes) rfl sc_worst_delay.nd (pi_range1 (by rfl) G.range (pa_cons (pv 1) pa_nil)) (blkOk_by (own := [("one", 2), ("other", 3)]) (N := ["web", "many", "one", "other"]) (sc := C8.fnScope st_worst_delay) (by decide +kernel)) (vs1 := [3]) (by decide) (fun _ _ _ _ _ => (pg_name (i := 2) sc_worst_delay.nd rfl (.inl rfl))) (fun _ _ _ _ _ => pts_nil) (fun _ _ _ _ _ => (pi_range1 (by rfl) G.range (pa_cons (pv 2) pa_nil))) (fun _ _ _ _ _ => (pg_name (i := 3) sc_worst_delay.nd rfl (.inl rfl))) (fun _ _ _ _ _ => pts_nil) (fun _ _ _ _ _ => (C8.pe_c c_least_delay_of hr (by decide) (by rfl) (pa_cons (pv 0) (pa_cons (pv 2) (pa_cons (pv 3) pa_nil)))))) pa_nil)))))), ?_⟩
    have n7 := ok.n7
    have n2 := ok.n2
    refine ⟨_, rfl, wv, W, rfl, hW, ok, hT, fun H1 sm => ?_⟩
    have hW1 := hW.mono sm.tk
    obtain ⟨wa, wvs, rfl, hwa, pw⟩ := hW1
    have hwl := pw.length
    refine ⟨_, rfl, wa, wvs, rfl, .inr (SqT.of hwa), ?_⟩
    refine ⟨_, rfl, _, rfl, by show -(2 ^ 62) ≤ ((wvs.length : Nat) : Int); omega, by show ((wvs.length : Nat) : Int) < 2 ^ 62; omega, fun D nD => ?_⟩
    refine ⟨fun i m Hc => m = wvs.length - i ∧ i ≤ wvs.length ∧ Hc D = some (.lst ((Tri i (ldl W)).map nI)) ∧ (Tri i (ldl W)).length ≤ 7 * i ∧ Sm H1 Hc, ⟨_, rfl, Nat.zero_le _, upd_same, Nat.le_refl _, Sm.new nD⟩, ?_⟩
    rintro i m Hc ⟨rfl, hi, hD, hl, sc⟩
    by_cases hlt : i < wvs.length
    · refine .inr ⟨hlt, fun Hd => Hd D = some (.lst ((Tri (i + 1) (ldl W)).map nI)) ∧ (Tri (i + 1) (ldl W)).length ≤ 7 * (i + 1) ∧ Sm H1 Hd, fun H' h => ⟨_, by omega, rfl, hlt, h⟩, fun x H' hy => ?_⟩
      obtain ⟨rfl, rfl⟩ := hy
      rw [Int.zero_add]
      refine ⟨rfl, r_yes ⟨_, rfl, _, rfl, by omega, by omega, ?_⟩⟩
      refine ⟨fun j k Hd => k = i - j ∧ j ≤ i ∧ Hd D = some (.lst ((Tri i (ldl W) ++ (List.range j).map fun j => ldl W i j).map nI)) ∧ Sm H1 Hd, ⟨_, rfl, Nat.zero_le _, by rw [hD]; simp, sc⟩, ?_⟩
      rintro j k Hd ⟨rfl, hj, hD2, sd⟩
      by_cases hlt2 : j < i
      · refine .inr ⟨hlt2, fun He => He D = some (.lst ((Tri i (ldl W) ++ (List.range (j + 1)).map fun j => ldl W i j).map nI)) ∧ Sm H1 He, fun H' h => ⟨_, by omega, rfl, hlt2, h⟩, fun x H' hy => ?_⟩
        obtain ⟨rfl, rfl⟩ := hy
        rw [Int.zero_add]
        refine ⟨rfl, r_yes ⟨_, rfl, _, rfl, _, rfl, _, W, i, j, rfl, ⟨wa, wvs, rfl, sd.tk _ _ hwa, L2.Paired.mapP pw fun _ _ z => z.mono sd.tk⟩, ok, by omega, by omega, fun H5 s5 => ?_⟩⟩
        have hD5 := s5.at_ D _ rfl hD2
        refine ⟨_, hD5, ?_, ?_, (sd.trans s5).mut nD⟩
        · rw [List.length_map, List.length_append, List.length_map, List.length_range]
          exact small1000 (by omega)
        · rw [upd_same, List.range_succ]
          simp only [List.map_append, List.append_assoc, List.map_cons, List.map_nil]
      · have e : j = i := by omega
        subst e
        refine .inl ⟨Nat.le_refl _, ?_, ?_, sd⟩
        · rw [tri_succ]; exact hD2
        · rw [tri_succ, List.length_append, List.length_map, List.length_range]; omega
    · have e : i = wvs.length := by omega
      subst e
      refine .inl ⟨Nat.le_refl _, D, (Tri wvs.length (ldl W)).map (fun x : Nat => (x : Int)), rfl, SqL.of (by rw [hD, List.map_map]; rfl), ?_, fun mx hmx hall => ?_⟩
      · rw [List.length_map]
        refine List.length_pos_of_mem (mem_tri.mpr ⟨1, 0, by omega, by omega, rfl⟩)
      · obtain ⟨x, hx, rfl⟩ := List.mem_map.mp hmx
        obtain ⟨a, c, h1, h2, h3⟩ := mem_tri.mp hx
        refine q Hc x (sm.trans sc) ⟨⟨a, c, by omega, h2, h3⟩, fun a c h1 h2 => ?_⟩
        have z := hall _ (List.mem_map.mpr ⟨ldl W a c, mem_tri.mpr ⟨a, c, by omega, h2, rfl⟩, rfl⟩)
        omega
end
end K2
namespace K2
open PySem PySem.Spec PyProof.Rows L2
abbrev st_need_web : Stmt := topS 16
theorem sc_need_web : FnScope ["value", "doors", "room", "number"] ["value"] (C8.fnScope st_need_web) := C8.fnScope_by (by decide +kernel)
-- slots: value=0 doors=1 room=2 number=3

section
variable {Tl : List Addr} {P : Program} {w : World} {K : PySem.W.Frag} {mg : Str → Option Value} {base : Heap}
theorem cal_need_web {f c Pw : Addr} {fd : FuncData} (F : C8.Def K mg "need_web" st_need_web f fd) (hc : fd.code = .ref c) (TB : GxR.TabB base mg c Pw) (hP : Pw ∈ Tl) (b : Binds K fd ["value"] []) (G : Glob mg) (c_are_doors : C8.Cal P w K mg base 2 "are_doors" spAreDoors []) (c_leads_back : C8.Cal P w K mg base 1 "leads_back" spLeads []) (c_rooms_from : C8.Cal P w K mg base 1 "rooms_from" spRoomsFrom []) : C8.Cal P w K mg base 6 "need_web" (spNeedWeb Tl) [] := by
  refine calG (k := 5) F hc b .nil sc_need_web (fun vs H Q E h => ?_) (fun A outer s H vs Q E hr h => ?_)
  · obtain ⟨_, _, rfl, _⟩ := h
    rfl
  · obtain ⟨wv, W, rfl, hW, ok, hT, q⟩ := h
    refine ⟨_, (pss_cons (ps_if (PW.pt (pw_or (pt_not (pt_val (pe_callB (id := "isinstance") call_isi (by rfl) G.isinstance (by decide +kernel) (pa_cons (pv 0) (pa_cons (pe_bltn (v := .ty "tuple") (by rfl) G.tuple (by decide +kernel) rfl) pa_nil))))) (pw_or1 (pt_not (pt_chain op_le op_le pe_int (pe_callB (id := "len") call_len_seq (by rfl) G.len (by decide +kernel) (pa_cons (pv 0) pa_nil)) (C8.pe_gc (by rfl) G.MOST_ROOMS)))))) 
      (pss_one ps_never) pss_nil)
    (pss_cons (ps_if (pt_not (pt_val (pe_allG (own := [("doors", 1)]) (g := gName 1) (kk := 2) hr rfl sc_need_web.nd (by rfl) G.all TB rfl rfl (by decide +kernel) (by rfl) (pi_tup (pv 0)) (blkOk_by (own := [("doors", 1)]) (N := ["value", "doors", "room", "number"]) (sc := C8.fnScope st_need_web) (by decide +kernel)) (fun _ _ _ _ _ => (pg_name (i := 1) sc_need_web.nd rfl (.inl rfl))) (fun _ _ _ _ _ hr2 => (C8.pe_c c_are_doors hr2 (by decide) (by rfl) (pa_cons (pv 1) (pa_cons (pe_callB (id := "len") (call_len_seqK (K := K) (by rfl)) (by rfl) G.len (by decide +kernel) (pa_cons (pv 0) pa_nil)) pa_nil))))))) 
      (pss_one ps_never) pss_nil)
    (pss_cons (ps_for PassesOwn.never rfl (pi_enumT (by rfl) G.enumerate (pa_cons (pv 0) pa_nil)) (pg_tup rfl (pgs_cons (pg_name (i := 2) sc_need_web.nd rfl (.inr rfl)) (pgs_cons (pg_name (i := 1) sc_need_web.nd rfl (.inl rfl)) pgs_nil))) 
      (pss_one (ps_if (pt_not (pt_val (pe_allG (own := [("number", 3)]) (g := gName 3) (kk := 2) hr rfl sc_need_web.nd (by rfl) G.all TB rfl rfl (by decide +kernel) (by rfl) (pi_range1 (by rfl) G.range (pa_cons (pe_callB (id := "len") call_len_seq (by rfl) G.len (by decide +kernel) (pa_cons (pv 1) pa_nil)) pa_nil)) (blkOk_by (own := [("number", 3)]) (N := ["value", "doors", "room", "number"]) (sc := C8.fnScope st_need_web) (by decide +kernel)) (fun _ _ _ _ _ => (pg_name (i := 3) sc_need_web.nd rfl (.inl rfl))) (fun _ _ _ _ _ hr2 => (C8.pe_c c_leads_back hr2 (by decide) (by rfl) (pa_cons (pv 0) (pa_cons (pv 2) (pa_cons (pv 3) pa_nil)))))))) 
        (pss_one ps_never) pss_nil)))
    (pss_one (ps_if (pt_cmpR op_lt (pe_callB (id := "len") call_lenD (by rfl) G.len (by decide +kernel) (pa_cons (C8.pe_c c_rooms_from hr (by decide) (by rfl) (pa_cons (pv 0) (pa_cons pe_int pa_nil))) pa_nil)) (pe_callB (id := "len") call_len_seq (by rfl) G.len (by decide +kernel) (pa_cons (pv 0) pa_nil)) (nomark _)) 
      (pss_one ps_never) pss_nil))))), ?_⟩
    have n7 := ok.n7
    have n2 := ok.n2
    obtain ⟨wa, wvs, rfl, hwa, pw⟩ := id hW
    have hwl := pw.length
    refine r_isiV rfl (.tup hwa) rfl ⟨_, rfl, iteF ?_⟩
    refine ⟨_, rfl, wa, wvs, rfl, .inr (SqT.of hwa), ?_⟩
    refine ⟨2, _, rfl, rfl, _, rfl, ifT (decide_eq_true (by show (2 : Int) ≤ (wvs.length : Int); omega)) ?_⟩
    refine ⟨_, 7, rfl, rfl, _, rfl, ifF (by show (!decide ((wvs.length : Int) ≤ 7)) = false; rw [decide_eq_true (by omega)]; rfl) ?_⟩
    have hTb := hT Pw hP
    refine ⟨_, rfl, wa, rfl, ⟨_, SqT.of hwa⟩, hTb, wvs.length, fun _ H' => Sm H H', fun H2 t => sm_tabbed hTb t, fun i H1 hi s1 => ?_, fun H1 s1 => ?_⟩
    · have wk := walk_tup (K := K) (a := wa) (xs := wvs)
      refine ⟨wk.goes i H1 hi (SqT.of (s1.tk _ _ hwa)), fun x H' y => ?_⟩
      obtain ⟨rfl, hx⟩ := wk.yields i H1 x H' hi (SqT.of (s1.tk _ _ hwa)) y
      obtain ⟨ds, ed, hds⟩ := pget1 pw hx
      obtain ⟨d1, d4⟩ := ok.deg _ _ ed
      refine ⟨rfl, _, rfl, _, rfl, wa, wvs, rfl, .inr (SqT.of (s1.tk _ _ hwa)), x, wvs.length, ds, rfl, hds.mono s1.tk, d1, d4, fun p hp => ?_, true, rfl, fun _ => s1, fun z => nomatch z⟩
      obtain ⟨j, hj, ej⟩ := get_of_mem hp
      have hd : door W i j = some (p.1, p.2) := by rw [door_at ed]; exact ej
      exact ⟨by rw [hwl]; exact ok.to hd, ok.b4 hd⟩
    · refine ⟨walk_tup.stops H1 (SqT.of (s1.tk _ _ hwa)), true, rfl, iteF ?_⟩
      -- for room, doors in enumerate(value)
      refine ⟨_, rfl, wa, _, rfl, SqT.of (s1.tk _ _ hwa), for_enumT (xs := wvs) (fun i σ2 H2 => Sm H H2 ∧ ∃ x1 x2 x3, σ2 = [some (.ref wa), x1, x2, x3]) ⟨s1, _, _, _, rfl⟩ (fun i σ2 H2 h => SqT.of (h.1.tk _ _ hwa)) (fun i x T σ2 H2 hx h nT => ?_) (fun σ2 H2 h => ?_)⟩
      · obtain ⟨s2, x1, x2, x3, rfl⟩ := h
        obtain ⟨ds, ed, hds⟩ := pget1 pw hx
        have s3 : Sm H (upd H2 T (.tup [nI i, x])) := s2.add nT
        refine r_un2v upd_same ?_
        generalize upd H2 T (.tup [nI i, x]) = H3 at s3 ⊢
        have hds3 := hds.mono s3.tk
        obtain ⟨da, dvs, rfl, hda, pds⟩ := id hds3
        have hdl := pds.length
        obtain ⟨d1, d4⟩ := ok.deg _ _ ed
        have hi : i < W.length := by have z := lt_of_get hx; omega
        have hTb3 := s3.tb _ hTb
        refine ⟨_, rfl, da, dvs, rfl, .inr (SqT.of hda), _, rfl, by show -(2 ^ 62) ≤ ((dvs.length : Nat) : Int); omega, by show ((dvs.length : Nat) : Int) < 2 ^ 62; omega, hTb3, dvs.length, fun _ H' => Sm H H', fun H4 t => s3.trans (sm_tabbed hTb3 t), fun j H4 hj s4 => ⟨hj, fun y H' hy => ?_⟩, fun H4 s4 => ?_⟩
        · obtain ⟨rfl, rfl⟩ := hy
          rw [Int.zero_add]
          refine ⟨rfl, _, rfl, _, rfl, _, rfl, .ref wa, W, i, j, rfl, hW.mono s4.tk, ok, hi, by rw [deg_at ed]; omega, fun H5 s5 => ⟨true, rfl, fun _ => s4.trans s5, fun z => nomatch z⟩⟩
        · exact ⟨Nat.le_refl _, true, rfl, iteF ⟨s4, _, _, _, rfl⟩⟩
      · obtain ⟨s2, x1, x2, x3, rfl⟩ := h
        refine ⟨_, rfl, .ref wa, 0, W, rfl, hW.mono s2.tk, ok, by omega, fun H3 p fs sm np hp nd hm => ?_⟩
        have hlen : W.length ≤ fs.length := by
          have z := nd_le (List.range W.length) (fs.map Prod.fst) List.nodup_range fun x hx => by
            obtain ⟨k, hk⟩ := ds_ex ok (a := 0) (b := x) (by omega) (List.mem_range.mp hx)
            exact List.mem_map.mpr ⟨(x, k), (hm x k).mpr hk, rfl⟩
          rwa [List.length_range, List.length_map] at z
        refine ⟨p, _, rfl, hp, _, rfl, wa, wvs, rfl, .inr (SqT.of ((s2.trans sm).tk _ _ hwa)), _, _, rfl, rfl, _, rfl, ifF ?_ (q H3 (s2.trans sm))⟩
        refine decide_eq_false ?_
        unfold encR
        rw [List.length_map]
        omega
end
end K2
namespace K2
open PySem PySem.Spec PyProof.Rows L2
abbrev st_is_row : Stmt := topS 20
theorem sc_is_row : FnScope ["value", "door"] ["value"] (C8.fnScope st_is_row) := C8.fnScope_by (by decide +kernel)
-- slots: value=0 door=1

abbrev st_is_lot : Stmt := topS 37
theorem sc_is_lot : FnScope ["web", "value", "pair", "mate", "room"] ["web", "value"] (C8.fnScope st_is_lot) := C8.fnScope_by (by decide +kernel)
-- slots: web=0 value=1 pair=2 mate=3 room=4

theorem kd_nt {H : Hp} {v : V} {n m : String} {K : PySem.W.Frag} (k : Kd H v n) (h : n ≠ "tuple") : PySem.W.kitOne K (.type n) (.type "tuple") = some false := by
  cases k with
  | tup e => exact absurd rfl h
  | _ => rfl
def ltP2 (a b : Nat × Nat) : Prop := a.1 < b.1 ∨ (a.1 = b.1 ∧ a.2 < b.2)
theorem asc_adj {ps : List (Nat × Nat)} (h : ∀ (i : Nat) x y, ps[i]? = some x → ps[i + 1]? = some y → ltP2 x y) : Asc ps := by
  unfold Asc
  induction ps with
  | nil => exact .nil
  | cons p r ih =>
    have hr := ih fun i x y e1 e2 => h (i + 1) x y e1 e2
    refine .cons (fun y hy => ?_) hr
    cases r with
    | nil => cases hy
    | cons q s =>
      have h0 : ltP2 p q := h 0 p q rfl rfl
      rcases List.mem_cons.mp hy with rfl | hy
      · exact h0
      · have h1 := (List.pairwise_cons.mp hr).1 y hy
        unfold ltP2 at h0
        omega
theorem lex2 (x y : Nat × Nat) : HT.lexLt [(x.1 : Int), (x.2 : Int)] [(y.1 : Int), (y.2 : Int)] = true ↔ ltP2 x y := by
  unfold ltP2
  rw [HT.lexLt_cons, HT.lexLt_cons, HT.lexLt_nil_nil]
  by_cases e : (x.1 : Int) = (y.1 : Int)
  · rw [if_pos e]
    by_cases e2 : (x.2 : Int) = (y.2 : Int)
    · rw [if_pos e2]
      constructor
      · intro z; cases z
      · intro z; omega
    · rw [if_neg e2, decide_eq_true_iff]; omega
  · rw [if_neg e, decide_eq_true_iff]; omega
section
variable {Tl : List Addr} {P : Program} {w : World} {K : PySem.W.Frag} {mg : Str → Option Value} {base : Heap}
def spIsRow (Tl : List Addr) : Sp := fun vs H Q _ => ∃ v, vs = [v] ∧ Tbs Tl H ∧ ((∃ n, n ≠ "tuple" ∧ Kd H v n ∧ Q (.bl false) H) ∨ (∃ a xs, v = .ref a ∧ H a = some (.tup xs) ∧ 1000 < xs.length ∧ Q (.bl false) H) ∨
  (∃ (a : Addr) (row : List Nat), v = .ref a ∧ H a = some (.tup (row.map nI)) ∧ row.length ≤ 1000 ∧ (∀ x ∈ row, x < 4) ∧ ∀ H', Sm H H' → Q (.bl true) H') ∨ (∃ a x, v = .ref a ∧ H a = some (.tup [x]) ∧ (x = .int 4 ∨ x = .bl true) ∧ ∀ H', Sm H H' → Q (.bl false) H'))
theorem cal_is_row {f c Pw : Addr} {fd : FuncData} (F : C8.Def K mg "is_row" st_is_row f fd) (hc : fd.code = .ref c) (TB : GxR.TabB base mg c Pw) (hP : Pw ∈ Tl) (b : Binds K fd ["value"] []) (G : Glob mg) (c_is_number : C8.Cal P w K mg base 1 "is_number" spIsNumber []) : C8.Cal P w K mg base 5 "is_row" (spIsRow Tl) [] := by
  refine calG (k := 4) F hc b .nil sc_is_row (fun vs H Q E h => ?_) (fun A outer s H vs Q E hr h => ?_)
  · obtain ⟨_, rfl, _⟩ := h
    rfl
  · obtain ⟨v, rfl, hT, h⟩ := h
    refine ⟨_, (pss_cons (ps_if (PW.pt (pw_or (pt_not (pt_val (pe_callB (id := "isinstance") call_isi (by rfl) G.isinstance (by decide +kernel) (pa_cons (pv 0) (pa_cons (pe_bltn (v := .ty "tuple") (by rfl) G.tuple (by decide +kernel) rfl) pa_nil))))) (pw_or1 (pt_cmpR op_gt (pe_callB (id := "len") call_len_seq (by rfl) G.len (by decide +kernel) (pa_cons (pv 0) pa_nil)) (C8.pe_gc (by rfl) G.MOST_ROW) (nomark _))))) 
      (pss_one (ps_ret pe_bl)) pss_nil)
    (pss_one (ps_ret (pe_allG (own := [("door", 1)]) (g := gName 1) (kk := 1) hr rfl sc_is_row.nd (by rfl) G.all TB rfl rfl (by decide +kernel) (by rfl) (pi_tup (pv 0)) (blkOk_by (own := [("door", 1)]) (N := ["value", "door"]) (sc := C8.fnScope st_is_row) (by decide +kernel)) (fun _ _ _ _ _ => (pg_name (i := 1) sc_is_row.nd rfl (.inl rfl))) (fun _ _ _ _ _ hr2 => (C8.pe_c c_is_number hr2 (by decide) (by rfl) (pa_cons (pv 1) (pa_cons pe_int (pa_cons (pe_op op_sub (C8.pe_gc (by rfl) G.MOST_DOORS) pe_int) pa_nil))))))))), ?_⟩
    have hTb := hT Pw hP
    rcases h with ⟨n, hn, k, q⟩ | ⟨a, xs, rfl, ha, hl, q⟩ | ⟨a, row, rfl, ha, hl, h4, q⟩ | ⟨a, x, rfl, ha, hx, q⟩
    · exact r_isiV rfl k (kd_nt (m := n) k hn) ⟨_, rfl, iteT q⟩
    · refine r_isiV rfl (.tup ha) rfl ⟨_, rfl, iteF ⟨_, rfl, a, xs, rfl, .inr (SqT.of ha), _, 1000, rfl, rfl, _, rfl, ifT (decide_eq_true ?_) q⟩⟩
      omega
    · refine r_isiV rfl (.tup ha) rfl ⟨_, rfl, iteF ⟨_, rfl, a, _, rfl, .inr (SqT.of ha), _, 1000, rfl, rfl, _, rfl, ifF (decide_eq_false ?_) ?_⟩⟩
      · rw [List.length_map]; omega
      refine ⟨_, rfl, a, rfl, ⟨_, SqT.of ha⟩, hTb, (row.map nI).length, fun _ H' => Sm H H', fun H2 t => sm_tabbed hTb t, fun i H1 hi s1 => ?_, fun H1 s1 => ?_⟩
      · have wk := walk_tup (K := K) (a := a) (xs := row.map nI)
        refine ⟨wk.goes i H1 hi (SqT.of (s1.tk _ _ ha)), fun x H' y => ?_⟩
        obtain ⟨rfl, hx⟩ := wk.yields i H1 x H' hi (SqT.of (s1.tk _ _ ha)) y
        obtain ⟨r, hr1, rfl⟩ := List.mem_map.mp (mem_of_get hx)
        refine ⟨rfl, _, rfl, _, _, rfl, rfl, _, _, _, rfl, .inl ⟨_, rfl, fun b hb => ?_⟩⟩
        have := h4 r hr1
        obtain rfl : b = true := hb.mpr ⟨by omega, by omega⟩
        exact ⟨true, rfl, fun _ => s1, fun z => nomatch z⟩
      · exact ⟨walk_tup.stops H1 (SqT.of (s1.tk _ _ ha)), q H1 s1⟩
    · refine r_isiV rfl (.tup ha) rfl ⟨_, rfl, iteF ⟨_, rfl, a, _, rfl, .inr (SqT.of ha), _, 1000, rfl, rfl, _, rfl, ifF rfl ?_⟩⟩
      refine ⟨_, rfl, a, rfl, ⟨_, SqT.of ha⟩, hTb, 1, fun i H' => i = 0 ∧ Sm H H', fun H2 t => ⟨rfl, sm_tabbed hTb t⟩, fun i H1 hi s1 => ?_, fun H1 s1 => ?_⟩
      · obtain ⟨rfl, s1⟩ := s1
        have wk := walk_tup (K := K) (a := a) (xs := [x])
        refine ⟨wk.goes 0 H1 hi (SqT.of (s1.tk _ _ ha)), fun y H' hy => ?_⟩
        obtain ⟨rfl, hx2⟩ := wk.yields 0 H1 y H' hi (SqT.of (s1.tk _ _ ha)) hy
        obtain rfl := Option.some.inj hx2
        refine ⟨rfl, _, rfl, _, _, rfl, rfl, _, _, _, rfl, ?_⟩
        rcases hx with rfl | rfl
        · refine .inl ⟨_, rfl, fun b hb => ?_⟩
          have hb2 : b = false := by
            cases b with
            | false => rfl
            | true => have := (hb.mp rfl).2; omega
          subst hb2
          exact ⟨false, rfl, fun z => (nomatch z), fun _ => q _ s1⟩
        · exact .inr ⟨"bool", by decide, .bl true, false, rfl, fun z => (nomatch z), fun _ => q _ s1⟩
      · exact absurd s1.1 (by omega)
theorem IsP.uniq {H : Hp} {v : V} {p q : Nat × Nat} (h : IsP H v p) (g : IsP H v q) : p = q := by
  obtain ⟨a, rfl, h⟩ := h
  obtain ⟨b, e, g⟩ := g
  cases e
  rw [h] at g
  have e := HO.tup.inj (Option.some.inj g)
  injection e with e1 e2
  injection e2 with e2 _
  have := V.int.inj e1
  have := V.int.inj e2
  exact Prod.ext (by omega) (by omega)
def Gd (n : Nat) (H : Hp) (z : V) : Prop := ∃ p, IsP H z p ∧ p.1 < n ∧ p.2 < n
def Bd (n : Nat) (H : Hp) (z : V) : Prop := z = .non ∨ IsP H z (0, n)
theorem not_gb {n : Nat} {H : Hp} {z : V} (g : Gd n H z) (b : Bd n H z) : False := by
  obtain ⟨p, h1, h2, h3⟩ := g
  rcases b with rfl | b
  · obtain ⟨a, e, _⟩ := h1
    cases e
  · have e := h1.uniq b
    rw [e] at h3
    exact Nat.lt_irrefl _ h3
/-- is_lot: a tuple of pairs of rooms; or not a lot for another reason -/
def spIsLot (Tl : List Addr) : Sp := fun vs H Q _ => ∃ (wv v : V) (W : Web), vs = [wv, v] ∧ IsW H wv W ∧ Ok W ∧ Tbs Tl H ∧ ((∃ n, n ≠ "tuple" ∧ Kd H v n ∧ Q (.bl false) H) ∨
  (∃ ps, IsPs H v ps ∧ (∀ p ∈ ps, p.1 < W.length ∧ p.2 < W.length) ∧ ps.length ≤ 200 ∧ ∀ H' b, Sm H H' → (b = true → Asc ps) → (Asc ps → b = true) → Q (.bl b) H') ∨
  (∃ a xs ps x, v = .ref a ∧ H a = some (.tup (xs ++ [x])) ∧ Paired (IsP H) xs ps ∧ (∀ p ∈ ps, p.1 < W.length ∧ p.2 < W.length) ∧ (x = .non ∨ IsP H x (0, W.length)) ∧ ∀ H', Sm H H' → Q (.bl false) H'))
theorem cal_is_lot {f c Pw : Addr} {fd : FuncData} (F : C8.Def K mg "is_lot" st_is_lot f fd) (hc : fd.code = .ref c) (TB : GxR.TabB base mg c Pw) (hP : Pw ∈ Tl) (b : Binds K fd ["web", "value"] []) (G : Glob mg) (c_is_number : C8.Cal P w K mg base 1 "is_number" spIsNumber []) : C8.Cal P w K mg base 5 "is_lot" (spIsLot Tl) [] := by
  refine calG (k := 4) F hc b .nil sc_is_lot (fun vs H Q E h => ?_) (fun A outer s H vs Q E hr h => ?_)
  · obtain ⟨_, _, _, rfl, _⟩ := h
    rfl
  · obtain ⟨wv, v, W, rfl, hW, ok, hT, h⟩ := h
    refine ⟨_, (pss_cons (ps_if (pt_not (pt_val (pe_callB (id := "isinstance") call_isi (by rfl) G.isinstance (by decide +kernel) (pa_cons (pv 1) (pa_cons (pe_bltn (v := .ty "tuple") (by rfl) G.tuple (by decide +kernel) rfl) pa_nil))))) 
      (pss_one (ps_ret pe_bl)) pss_nil)
    (pss_cons (ps_for PassesOwn.never rfl (pi_tup (pv 1)) (pg_name (i := 2) sc_is_lot.nd rfl (.inl rfl)) 
      (pss_cons (ps_if (PW.pt (pw_or (pt_not (pt_val (pe_callB (id := "isinstance") call_isi (by rfl) G.isinstance (by decide +kernel) (pa_cons (pv 2) (pa_cons (pe_bltn (v := .ty "tuple") (by rfl) G.tuple (by decide +kernel) rfl) pa_nil))))) (pw_or1 (pt_cmpR op_ne (pe_callB (id := "len") call_len_seq (by rfl) G.len (by decide +kernel) (pa_cons (pv 2) pa_nil)) pe_int (nomark _))))) 
        (pss_one (ps_ret pe_bl)) pss_nil)
      (pss_one (ps_if (pt_not (pt_val (pe_allG (own := [("room", 4)]) (g := gName 4) (kk := 1) hr rfl sc_is_lot.nd (by rfl) G.all TB rfl rfl (by decide +kernel) (by rfl) (pi_tup (pv 2)) (blkOk_by (own := [("room", 4)]) (N := ["web", "value", "pair", "mate", "room"]) (sc := C8.fnScope st_is_lot) (by decide +kernel)) (fun _ _ _ _ _ => (pg_name (i := 4) sc_is_lot.nd rfl (.inl rfl))) (fun _ _ _ _ _ hr2 => (C8.pe_c c_is_number hr2 (by decide) (by rfl) (pa_cons (pv 4) (pa_cons pe_int (pa_cons (pe_op op_sub (pe_callB (id := "len") (call_len_seqK (K := K) (by rfl)) (by rfl) G.len (by decide +kernel) (pa_cons (pv 0) pa_nil)) pe_int) pa_nil)))))))) 
        (pss_one (ps_ret pe_bl)) pss_nil))))
    (pss_one (ps_ret (pe_allG (own := [("pair", 2), ("mate", 3)]) (g := gTup K 2 (gCons (gName 2) (gCons (gName 3) gNil))) (kk := 1) hr rfl sc_is_lot.nd (by rfl) G.all TB rfl rfl (by decide +kernel) (by rfl) (RZ.pi_zipA (by rfl) G.zip (pa_cons (pv 1) (pa_cons (pe_slice sl_tupA (pv 1) (po_some pe_int) po_none) pa_nil))) (blkOk_by (own := [("pair", 2), ("mate", 3)]) (N := ["web", "value", "pair", "mate", "room"]) (sc := C8.fnScope st_is_lot) (by decide +kernel)) (fun _ _ _ _ _ => (pg_tup rfl (pgs_cons (pg_name (i := 2) sc_is_lot.nd rfl (.inl rfl)) (pgs_cons (pg_name (i := 3) sc_is_lot.nd rfl (.inl rfl)) pgs_nil)))) (fun _ _ _ _ _ hr2 => (pe_cmpR (op_ltTK (K := K) (by rfl) hr2.units0) (pv 2) (pv 3) (nomark _)))))))), ?_⟩
    have hTb := hT Pw hP
    have n2 := ok.n2
    have n7 := ok.n7
    rcases h with ⟨n, hn, k, q⟩ | h
    · exact r_isiV rfl k (kd_nt (m := n) k hn) ⟨_, rfl, iteT q⟩
    obtain ⟨a, zs, rfl, ha, hz, q1, q2⟩ : ∃ a zs, v = .ref a ∧ H a = some (.tup zs) ∧ (∀ z ∈ zs, Gd W.length H z ∨ Bd W.length H z) ∧ ((∃ z ∈ zs, Bd W.length H z) → ∀ H', Sm H H' → Q (.bl false) H') ∧
        ((∀ z ∈ zs, Gd W.length H z) → ∃ ps, Paired (IsP H) zs ps ∧ ∀ H' b, Sm H H' → (b = true → Asc ps) → (Asc ps → b = true) → Q (.bl b) H') := by
      rcases h with ⟨ps, ⟨a, zs, rfl, ha, pr⟩, hp, _, q⟩ | ⟨a, xs, ps, x, rfl, ha, pr, hp, hx, q⟩
      · have hg : ∀ z ∈ zs, Gd W.length H z := fun z hz => by
          obtain ⟨j, _, e⟩ := get_of_mem hz
          obtain ⟨p, e2, h2⟩ := pget1 pr e
          exact ⟨p, h2, hp p (mem_of_get e2)⟩
        exact ⟨a, zs, rfl, ha, fun z hz => .inl (hg z hz), fun ⟨z, h1, h2⟩ => (not_gb (hg z h1) h2).elim, fun _ => ⟨ps, pr, q⟩⟩
      · refine ⟨a, xs ++ [x], rfl, ha, fun z hz => ?_, fun _ => q, fun hg => (not_gb (hg x (List.mem_append_right _ (List.mem_singleton.mpr rfl))) hx).elim⟩
        rcases List.mem_append.mp hz with h | h
        · obtain ⟨j, _, e⟩ := get_of_mem h
          obtain ⟨p, e2, h2⟩ := pget1 pr e
          exact .inl ⟨p, h2, hp p (mem_of_get e2)⟩
        · rw [List.mem_singleton.mp h]; exact .inr hx
    clear h
    obtain ⟨wa, wvs, rfl, hwa, pw⟩ := id hW
    have hwl := pw.length
    refine r_isiV rfl (.tup ha) rfl ⟨_, rfl, iteF ?_⟩
    -- for pair in value
    refine ⟨_, rfl, a, rfl, ⟨_, SqT.of ha⟩, for_tup (xs := zs) (fun i σ1 H1 => Sm H H1 ∧ (∀ (j : Nat) z, j < i → zs[j]? = some z → Gd W.length H z) ∧ ∃ x2 x3 x4, σ1 = [some (.ref wa), some (.ref a), x2, x3, x4]) ⟨Sm.refl H, fun j z h => absurd h (by omega), _, _, _, rfl⟩ (fun i σ1 H1 _ h => SqT.of (h.1.tk _ _ ha)) (fun i x σ1 H1 hx h => ?_) (fun σ1 H1 h => ?_)⟩
    · obtain ⟨s1, hg, x2, x3, x4, rfl⟩ := h
      have hxm := mem_of_get hx
      have hxz := hz x hxm
      by_cases hnon : x = .non
      · subst hnon
        have hb : Bd W.length H .non := .inl rfl
        exact r_isiV rfl .non rfl ⟨_, rfl, iteT (q1 ⟨_, hxm, hb⟩ H1 s1)⟩
      · obtain ⟨⟨u1, u2⟩, hpp⟩ : ∃ p, IsP H x p := by
          rcases hxz with ⟨p, h1, _⟩ | h1 | h1
          · exact ⟨p, h1⟩
          · exact absurd h1 hnon
          · exact ⟨_, h1⟩
        obtain ⟨pa, rfl, hpa⟩ := id hpp
        have hpa1 := s1.tk _ _ hpa
        refine r_isiV rfl (.tup hpa1) rfl ⟨_, rfl, iteF ?_⟩
        refine ⟨_, rfl, pa, _, rfl, .inr (SqT.of hpa1), rfl, _, rfl, iteF ?_⟩
        have hTb1 := s1.tb _ hTb
        refine ⟨_, rfl, pa, rfl, ⟨_, SqT.of hpa1⟩, hTb1, 2, fun j H' => Sm H H' ∧ (0 < j → u1 < W.length) ∧ (1 < j → u2 < W.length), fun H2 t => ⟨s1.trans (sm_tabbed hTb1 t), fun z => absurd z (by omega), fun z => absurd z (by omega)⟩, fun j H2 hj h2 => ?_, fun H2 h2 => ?_⟩
        · obtain ⟨s2, g1, g2⟩ := h2
          have wk := walk_tup (K := K) (a := pa) (xs := [nI u1, nI u2])
          refine ⟨wk.goes j H2 hj (SqT.of (s2.tk _ _ hpa)), fun y H' hy => ?_⟩
          obtain ⟨rfl, hy2⟩ := wk.yields j H2 y H' hj (SqT.of (s2.tk _ _ hpa)) hy
          obtain ⟨r, hr3, hr4, hr5⟩ : ∃ r : Nat, y = nI r ∧ (j = 0 → r = u1) ∧ (j = 1 → r = u2) := by
            rcases j with _ | _ | j
            · exact ⟨u1, (Option.some.inj hy2).symm, fun _ => rfl, fun z => by omega⟩
            · exact ⟨u2, (Option.some.inj hy2).symm, fun z => by omega, fun _ => rfl⟩
            · omega
          subst hr3
          refine ⟨rfl, _, rfl, _, rfl, wa, wvs, rfl, .inr (SqT.of (s2.tk _ _ hwa)), _, _, rfl, rfl, _, _, _, rfl, .inl ⟨_, rfl, fun b hb => ⟨b, rfl, fun e => ?_, fun e => ?_⟩⟩⟩
          · have z := (hb.mp e).2
            have z2 : r < W.length := by omega
            exact ⟨s2, fun h => by rcases j with _ | j; exact hr4 rfl ▸ z2; exact g1 (by omega), fun h => by
              have e1 : j = 1 := by omega
              exact hr5 e1 ▸ z2⟩
          · refine ⟨false, rfl, iteT (q1 ⟨_, hxm, ?_⟩ H' s2)⟩
            rcases hxz with ⟨p, h1, h3, h4⟩ | h1
            · exfalso
              have ep := h1.uniq hpp
              subst ep
              have hrl : r < W.length := by
                rcases j with _ | _ | j
                · rw [hr4 rfl]; exact h3
                · rw [hr5 rfl]; exact h4
                · omega
              have := hb.mpr ⟨by omega, by omega⟩
              rw [e] at this
              cases this
            · exact h1
        · obtain ⟨s2, g1, g2⟩ := h2
          refine ⟨walk_tup.stops H2 (SqT.of (s2.tk _ _ hpa)), true, rfl, iteF ⟨s2, fun j z hj ez => ?_, _, _, _, rfl⟩⟩
          by_cases c : j = i
          · subst c
            rw [hx] at ez
            rw [← Option.some.inj ez]
            exact ⟨_, hpp, g1 (by omega), g2 (by omega)⟩
          · exact hg j z (by omega) ez
    · obtain ⟨s1, hg, x2, x3, x4, rfl⟩ := h
      obtain ⟨ps, pr, q⟩ := q2 fun z hz => by
        obtain ⟨j, hj, e⟩ := get_of_mem hz
        exact hg j z hj e
      have hpl := pr.length
      refine ⟨_, rfl, _, rfl, 1, rfl, ?_⟩
      unfold tNoPart
      refine r_tail (s1.tk _ _ ha) fun c H2 s2 hc2 => ?_
      have s12 := s1.trans s2
      have hTb2 := s12.tb _ hTb
      have wk := walk_zT (K := K) (a := a) (b := c) (xs := zs) (ys := zs.tail) rfl
      have st : ∀ H', Sm H2 H' → SqT K H' a zs ∧ SqT K H' c zs.tail := fun H' s => ⟨SqT.of ((s12.trans s).tk _ _ ha), SqT.of (s.tk _ _ hc2)⟩
      refine ⟨a, c, zs, zs.tail, rfl, .inr ⟨(st H2 (Sm.refl _)).1, (st H2 (Sm.refl _)).2, hTb2, min zs.length zs.tail.length, fun i H' => Sm H2 H' ∧ ∀ (j : Nat) x y, j < i → ps[j]? = some x → ps[j + 1]? = some y → ltP2 x y, fun H3 t => ⟨sm_tabbed hTb2 t, fun j x y h => absurd h (by omega)⟩, fun i H3 hi h3 => ?_, fun H3 h3 => ?_⟩⟩
      · obtain ⟨s3, g3⟩ := h3
        refine ⟨wk.goes i H3 hi (st H3 s3), fun y H' hy => ?_⟩
        obtain ⟨T, x, y, rfl, nT, rfl, e1, e2⟩ := wk.yields i H3 y H' hi (st H3 s3) hy
        have e2 : zs[i + 1]? = some y := by rw [← List.getElem?_tail]; exact e2
        obtain ⟨p1, f1, hp1⟩ := pget1 pr e1
        obtain ⟨p2, f2, hp2⟩ := pget1 pr e2
        have s4 : Sm H2 (upd H3 T (.tup [x, y])) := s3.add nT
        refine r_un2v upd_same ⟨rfl, ?_⟩
        generalize upd H3 T (.tup [x, y]) = H4 at s4 ⊢
        have s5 := s12.trans s4
        obtain ⟨pa, rfl, hpa⟩ := hp1.mono s5.tk
        obtain ⟨pb, rfl, hpb⟩ := hp2.mono s5.tk
        refine ⟨_, rfl, _, rfl, pa, pb, [(p1.1 : Int), (p1.2 : Int)], [(p2.1 : Int), (p2.2 : Int)], rfl, rfl, SqT.of hpa, SqT.of hpb, _, rfl, fun e => ⟨s4, fun j x' y' hj k1 k2 => ?_⟩, fun e => q H4 false s5 (fun z => nomatch z) fun as => ?_⟩
        · by_cases cj : j = i
          · subst cj
            rw [f1] at k1
            rw [f2] at k2
            rw [← Option.some.inj k1, ← Option.some.inj k2]
            exact (lex2 p1 p2).mp e
          · exact g3 j x' y' (by omega) k1 k2
        · have z : ltP2 p1 p2 := by
            obtain ⟨l1, e3⟩ := List.getElem?_eq_some_iff.mp f1
            obtain ⟨l2, e4⟩ := List.getElem?_eq_some_iff.mp f2
            have := List.pairwise_iff_getElem.mp as i (i + 1) l1 l2 (by omega)
            rwa [e3, e4] at this
          rw [(lex2 p1 p2).mpr z] at e
          cases e
      · obtain ⟨s3, g3⟩ := h3
        refine ⟨wk.stops H3 (st H3 s3), q H3 true (s12.trans s3) (fun _ => asc_adj fun i x y e1 e2 => g3 i x y ?_ e1 e2) fun _ => rfl⟩
        have := lt_of_get e2
        rw [List.length_tail]
        omega
end
end K2
namespace K2
open PySem PySem.Spec PyProof.Rows L2
abbrev st_seen_on : Stmt := topS 21
theorem sc_seen_on : FnScope ["web", "room", "row", "seen", "door", "back"] ["web", "room", "row"] (C8.fnScope st_seen_on) := C8.fnScope_by (by decide +kernel)
-- slots: web=0 room=1 row=2 seen=3 door=4 back=5

abbrev st_law_seen : Stmt := topS 55
theorem sc_law_seen : FnScope ["_law_web_here", "_law_room", "_law_row", "_law_seen_here", "_law_door", "_law_back"] ["_law_web_here", "_law_room", "_law_row"] (C8.fnScope st_law_seen) := C8.fnScope_by (by decide +kernel)
-- slots: _law_web_here=0 _law_room=1 _law_row=2 _law_seen_here=3 _law_door=4 _law_back=5

section
variable {P : Program} {w : World} {K : PySem.W.Frag} {mg : Str → Option Value} {base : Heap}
def spSeen : Sp := fun vs H Q _ => ∃ (wv rv : V) (W : Web) (r : Nat) (row : List Nat), vs = [wv, nI r, rv] ∧ IsW H wv W ∧ Ok W ∧ r < W.length ∧ IsR H rv row ∧ row.length ≤ 900 ∧ (go W r row = none → ∀ H', Sm H H' → Q .non H') ∧
  (∀ t, go W r row = some t → ∀ H' p x, Sm H H' → H p = none → H' p = some (.tup [nI t, x]) → Q (.ref p) H')
theorem cal_seen_on {f : Addr} {fd : FuncData} (F : C8.Def K mg "seen_on" st_seen_on f fd) (b : Binds K fd ["web", "room", "row"] []) (G : Glob mg) : C8.Cal P w K mg base 1 "seen_on" spSeen [] := by
  refine C8.cal0 (k := 0) F b .nil sc_seen_on (fun vs H Q E h => ?_) (fun cdv A outer s H vs Q E hr h => ?_)
  · obtain ⟨_, _, _, _, _, rfl, _⟩ := h
    rfl
  · obtain ⟨wv, rv, W, r, row, rfl, hW, ok, hr0, hrow, hl9, q1, q2⟩ := h
    refine ⟨_, (pss_cons (ps_set (i := 3) sc_seen_on.nd rfl (.inl rfl) (pe_lst (pa_cons (pe_callB (id := "len") call_len_seq (by rfl) G.len (by decide +kernel) (pa_cons (pe_ix ix_tup (pv 0) (pv 1) (fun _ _ => rfl)) pa_nil)) pa_nil)))
    (pss_cons (ps_for PassesOwn.never rfl (pi_tup (pv 2)) (pg_name (i := 4) sc_seen_on.nd rfl (.inl rfl)) 
      (pss_cons (ps_if (pt_cmpR op_ge (pv 4) (pe_callB (id := "len") call_len_seq (by rfl) G.len (by decide +kernel) (pa_cons (pe_ix ix_tup (pv 0) (pv 1) (fun _ _ => rfl)) pa_nil)) (nomark _)) 
        (pss_one (ps_ret pe_non)) pss_nil)
      (pss_cons (ps_asg (pe_ix ix_tup (pe_ix ix_tup (pv 0) (pv 1) (fun _ _ => rfl)) (pv 4) (fun _ _ => rfl)) (pg_tup rfl (pgs_cons (pg_name (i := 1) sc_seen_on.nd rfl (.inl rfl)) (pgs_cons (pg_name (i := 5) sc_seen_on.nd rfl (.inl rfl)) pgs_nil))))
      (pss_one (ps_expr (pe_bm PySem.F.plainAttrs_list PySem.F.slot_list_append PySem.F.type_list_append mt_append (pv 3) (pa_cons (pe_tup (pa_cons (pv 5) (pa_cons (pe_callB (id := "len") call_len_seq (by rfl) G.len (by decide +kernel) (pa_cons (pe_ix ix_tup (pv 0) (pv 1) (fun _ _ => rfl)) pa_nil)) pa_nil))) pa_nil)))))))
    (pss_one (ps_ret (pe_tup (pa_cons (pv 1) (pa_cons (pe_tupleOf (by rfl) G.tuple (pv 3)) pa_nil))))))), ?_⟩
    obtain ⟨ra, rfl, hra⟩ := hrow
    refine ⟨_, rfl, _, rfl, r_web hW hr0 fun ds dv e1 hds => ?_⟩
    obtain ⟨da, dvs, rfl, hda, pds⟩ := hds
    refine ⟨da, dvs, rfl, .inr (SqT.of hda), by show 1 ≤ sizeLine; decide, fun la nla => ?_⟩
    have s0 : Sm H (upd H la (.lst [.int (dvs.length : Nat)])) := Sm.new nla
    have l0 : (upd H la (.lst [.int (dvs.length : Nat)])) la = some (.lst [.int (dvs.length : Nat)]) := upd_same
    generalize upd H la (.lst [.int (dvs.length : Nat)]) = H0 at s0 l0 ⊢
    refine ⟨_, rfl, ra, rfl, ⟨_, SqT.of (s0.tk _ _ hra)⟩, for_tup (xs := row.map nI) (fun i σ1 H1 => ∃ r' sl x4 x5, σ1 = [some wv, some (nI r'), some (.ref ra), some (.ref la), x4, x5] ∧ r' < W.length ∧ go W r (row.take i) = some r' ∧ H1 la = some (.lst sl) ∧ sl.length = i + 1 ∧ Sm H H1)
      ⟨r, _, none, none, rfl, hr0, rfl, l0, rfl, s0⟩ (fun i σ1 H1 _ h => by obtain ⟨_, _, _, _, _, _, _, _, _, h⟩ := h; exact SqT.of (h.tk _ _ hra)) (fun i x σ1 H1 hx h => ?_) (fun σ1 H1 h => ?_)⟩
    · obtain ⟨r', sl, x4, x5, rfl, hr1, hg, hla, hsl, s1⟩ := h
      rw [List.getElem?_map] at hx
      obtain ⟨d, hd, hx2⟩ : ∃ d, row[i]? = some d ∧ x = nI d := by
        cases e : row[i]? with
        | none => rw [e] at hx; cases hx
        | some d => rw [e] at hx; exact ⟨d, rfl, (Option.some.inj hx).symm⟩
      subst hx2
      have hi := lt_of_get hd
      have hW1 := hW.mono s1.tk
      have tk1 : row.take (i + 1) = row.take i ++ [d] := by rw [List.take_add_one, hd]; rfl
      refine ⟨_, rfl, _, rfl, _, rfl, r_web hW1 hr1 fun ds2 dv2 e2 hds2 => ?_⟩
      obtain ⟨db, dbs, rfl, hdb, pdb⟩ := id hds2
      have hdl := pdb.length
      refine ⟨db, dbs, rfl, .inr (SqT.of hdb), _, _, rfl, rfl, _, rfl, ifB (fun hge => ?_) (fun hge => ?_)⟩
      · -- no such door
        have hge2 : ds2.length ≤ d := by
          have := of_decide_eq_true hge
          omega
        refine q1 ?_ H1 s1
        have e3 : row = row.take (i + 1) ++ row.drop (i + 1) := (List.take_append_drop _ _).symm
        rw [e3, tk1, go_append, go_append, hg]
        show ((go W r' [d]).bind _) = none
        rw [go_cons, door_none (by rw [deg_at e2]; exact hge2)]
        rfl
      · have hlt : d < deg W r' := by
          have := of_decide_eq_false hge
          rw [deg_at e2]
          omega
        obtain ⟨⟨t, bk⟩, ed⟩ := door_of_lt hlt
        refine ⟨_, rfl, _, rfl, r_web hW1 hr1 fun ds3 dv3 e3 hds3 => ⟨_, rfl, r_ps hds3 (by rw [← door_at e3]; exact ed) fun pv1 hp1 => r_un2 hp1 ?_⟩⟩
        have ht := ok.to ed
        refine ⟨_, rfl, .inl ⟨rfl, _, SqL.of hla⟩, _, rfl, _, rfl, _, rfl, r_web hW1 ht fun ds4 dv4 e4 hds4 => ?_⟩
        obtain ⟨dc, dcs, rfl, hdc, pdc⟩ := hds4
        refine ⟨dc, dcs, rfl, .inr (SqT.of hdc), by show 2 ≤ sizeLine; decide, fun tp ntp => ?_⟩
        have s2 : Sm H1 (upd H1 tp (.tup [nI bk, .int (dcs.length : Nat)])) := Sm.new ntp
        have hla2 := s2.at_ la _ rfl hla
        refine ⟨la, _, _, rfl, rfl, hla2, small1000 (by omega), t, sl ++ [.ref tp], _, _, rfl, ht, ?_, upd_same, by rw [List.length_append, hsl]; rfl, (s1.trans s2).mut nla⟩
        rw [tk1]
        exact go_snoc hg ed
    · obtain ⟨r', sl, x4, x5, rfl, hr1, hg, hla, hsl, s1⟩ := h
      rw [List.length_map, List.take_length] at hg
      refine ⟨_, rfl, _, rfl, .inl ⟨la, sl, rfl, SqL.of hla, fun tq ntq => ⟨by show 2 ≤ sizeLine; decide, fun p np => ?_⟩⟩⟩
      obtain ⟨np2, _⟩ := upd_no np
      exact q2 r' hg _ p (.ref tq) ((s1.add ntq).add np) (s1.no p np2) upd_same
theorem cal_law_seen {f : Addr} {fd : FuncData} (F : C8.Def K mg "_law_seen" st_law_seen f fd) (b : Binds K fd ["_law_web_here", "_law_room", "_law_row"] []) (G : Glob mg) : C8.Cal P w K mg base 1 "_law_seen" spSeen [] := by
  refine C8.cal0 (k := 0) F b .nil sc_law_seen (fun vs H Q E h => ?_) (fun cdv A outer s H vs Q E hr h => ?_)
  · obtain ⟨_, _, _, _, _, rfl, _⟩ := h
    rfl
  · obtain ⟨wv, rv, W, r, row, rfl, hW, ok, hr0, hrow, hl9, q1, q2⟩ := h
    refine ⟨_, (pss_cons (ps_set (i := 3) sc_law_seen.nd rfl (.inl rfl) (pe_lst (pa_cons (pe_callB (id := "len") call_len_seq (by rfl) G.len (by decide +kernel) (pa_cons (pe_ix ix_tup (pv 0) (pv 1) (fun _ _ => rfl)) pa_nil)) pa_nil)))
    (pss_cons (ps_for PassesOwn.never rfl (pi_tup (pv 2)) (pg_name (i := 4) sc_law_seen.nd rfl (.inl rfl)) 
      (pss_cons (ps_if (pt_cmpR op_ge (pv 4) (pe_callB (id := "len") call_len_seq (by rfl) G.len (by decide +kernel) (pa_cons (pe_ix ix_tup (pv 0) (pv 1) (fun _ _ => rfl)) pa_nil)) (nomark _)) 
        (pss_one (ps_ret pe_non)) pss_nil)
      (pss_cons (ps_asg (pe_ix ix_tup (pe_ix ix_tup (pv 0) (pv 1) (fun _ _ => rfl)) (pv 4) (fun _ _ => rfl)) (pg_tup rfl (pgs_cons (pg_name (i := 1) sc_law_seen.nd rfl (.inl rfl)) (pgs_cons (pg_name (i := 5) sc_law_seen.nd rfl (.inl rfl)) pgs_nil))))
      (pss_one (ps_expr (pe_bm PySem.F.plainAttrs_list PySem.F.slot_list_append PySem.F.type_list_append mt_append (pv 3) (pa_cons (pe_tup (pa_cons (pv 5) (pa_cons (pe_callB (id := "len") call_len_seq (by rfl) G.len (by decide +kernel) (pa_cons (pe_ix ix_tup (pv 0) (pv 1) (fun _ _ => rfl)) pa_nil)) pa_nil))) pa_nil)))))))
    (pss_one (ps_ret (pe_tup (pa_cons (pv 1) (pa_cons (pe_tupleOf (by rfl) G.tuple (pv 3)) pa_nil))))))), ?_⟩
    obtain ⟨ra, rfl, hra⟩ := hrow
    refine ⟨_, rfl, _, rfl, r_web hW hr0 fun ds dv e1 hds => ?_⟩
    obtain ⟨da, dvs, rfl, hda, pds⟩ := hds
    refine ⟨da, dvs, rfl, .inr (SqT.of hda), by show 1 ≤ sizeLine; decide, fun la nla => ?_⟩
    have s0 : Sm H (upd H la (.lst [.int (dvs.length : Nat)])) := Sm.new nla
    have l0 : (upd H la (.lst [.int (dvs.length : Nat)])) la = some (.lst [.int (dvs.length : Nat)]) := upd_same
    generalize upd H la (.lst [.int (dvs.length : Nat)]) = H0 at s0 l0 ⊢
    refine ⟨_, rfl, ra, rfl, ⟨_, SqT.of (s0.tk _ _ hra)⟩, for_tup (xs := row.map nI) (fun i σ1 H1 => ∃ r' sl x4 x5, σ1 = [some wv, some (nI r'), some (.ref ra), some (.ref la), x4, x5] ∧ r' < W.length ∧ go W r (row.take i) = some r' ∧ H1 la = some (.lst sl) ∧ sl.length = i + 1 ∧ Sm H H1)
      ⟨r, _, none, none, rfl, hr0, rfl, l0, rfl, s0⟩ (fun i σ1 H1 _ h => by obtain ⟨_, _, _, _, _, _, _, _, _, h⟩ := h; exact SqT.of (h.tk _ _ hra)) (fun i x σ1 H1 hx h => ?_) (fun σ1 H1 h => ?_)⟩
    · obtain ⟨r', sl, x4, x5, rfl, hr1, hg, hla, hsl, s1⟩ := h
      rw [List.getElem?_map] at hx
      obtain ⟨d, hd, hx2⟩ : ∃ d, row[i]? = some d ∧ x = nI d := by
        cases e : row[i]? with
        | none => rw [e] at hx; cases hx
        | some d => rw [e] at hx; exact ⟨d, rfl, (Option.some.inj hx).symm⟩
      subst hx2
      have hi := lt_of_get hd
      have hW1 := hW.mono s1.tk
      have tk1 : row.take (i + 1) = row.take i ++ [d] := by rw [List.take_add_one, hd]; rfl
      refine ⟨_, rfl, _, rfl, _, rfl, r_web hW1 hr1 fun ds2 dv2 e2 hds2 => ?_⟩
      obtain ⟨db, dbs, rfl, hdb, pdb⟩ := id hds2
      have hdl := pdb.length
      refine ⟨db, dbs, rfl, .inr (SqT.of hdb), _, _, rfl, rfl, _, rfl, ifB (fun hge => ?_) (fun hge => ?_)⟩
      · -- no such door
        have hge2 : ds2.length ≤ d := by
          have := of_decide_eq_true hge
          omega
        refine q1 ?_ H1 s1
        have e3 : row = row.take (i + 1) ++ row.drop (i + 1) := (List.take_append_drop _ _).symm
        rw [e3, tk1, go_append, go_append, hg]
        show ((go W r' [d]).bind _) = none
        rw [go_cons, door_none (by rw [deg_at e2]; exact hge2)]
        rfl
      · have hlt : d < deg W r' := by
          have := of_decide_eq_false hge
          rw [deg_at e2]
          omega
        obtain ⟨⟨t, bk⟩, ed⟩ := door_of_lt hlt
        refine ⟨_, rfl, _, rfl, r_web hW1 hr1 fun ds3 dv3 e3 hds3 => ⟨_, rfl, r_ps hds3 (by rw [← door_at e3]; exact ed) fun pv1 hp1 => r_un2 hp1 ?_⟩⟩
        have ht := ok.to ed
        refine ⟨_, rfl, .inl ⟨rfl, _, SqL.of hla⟩, _, rfl, _, rfl, _, rfl, r_web hW1 ht fun ds4 dv4 e4 hds4 => ?_⟩
        obtain ⟨dc, dcs, rfl, hdc, pdc⟩ := hds4
        refine ⟨dc, dcs, rfl, .inr (SqT.of hdc), by show 2 ≤ sizeLine; decide, fun tp ntp => ?_⟩
        have s2 : Sm H1 (upd H1 tp (.tup [nI bk, .int (dcs.length : Nat)])) := Sm.new ntp
        have hla2 := s2.at_ la _ rfl hla
        refine ⟨la, _, _, rfl, rfl, hla2, small1000 (by omega), t, sl ++ [.ref tp], _, _, rfl, ht, ?_, upd_same, by rw [List.length_append, hsl]; rfl, (s1.trans s2).mut nla⟩
        rw [tk1]
        exact go_snoc hg ed
    · obtain ⟨r', sl, x4, x5, rfl, hr1, hg, hla, hsl, s1⟩ := h
      rw [List.length_map, List.take_length] at hg
      refine ⟨_, rfl, _, rfl, .inl ⟨la, sl, rfl, SqL.of hla, fun tq ntq => ⟨by show 2 ≤ sizeLine; decide, fun p np => ?_⟩⟩⟩
      obtain ⟨np2, _⟩ := upd_no np
      exact q2 r' hg _ p (.ref tq) ((s1.add ntq).add np) (s1.no p np2) upd_same
end
end K2
namespace K2
open PySem PySem.Spec PyProof.Rows L2
abbrev st_need_alike : Stmt := topS 28
theorem sc_need_alike : FnScope ["web", "one", "other", "found"] ["web", "one", "other"] (C8.fnScope st_need_alike) := C8.fnScope_by (by decide +kernel)
-- slots: web=0 one=1 other=2 found=3

abbrev st_shrink : Stmt := topS 29
theorem sc_shrink : FnScope ["web", "one", "other"] ["web", "one", "other"] (C8.fnScope st_shrink) := C8.fnScope_by (by decide +kernel)
-- slots: web=0 one=1 other=2

abbrev st_shrink_row : Stmt := topS 30
theorem sc_shrink_row : FnScope ["web", "one", "other", "found"] ["web", "one", "other"] (C8.fnScope st_shrink_row) := C8.fnScope_by (by decide +kernel)
-- slots: web=0 one=1 other=2 found=3

abbrev st_shows_shrink_row : Stmt := topS 31
theorem sc_shows_shrink_row : FnScope ["web", "one", "other", "value", "found", "due"] ["web", "one", "other", "value"] (C8.fnScope st_shows_shrink_row) := C8.fnScope_by (by decide +kernel)
-- slots: web=0 one=1 other=2 value=3 found=4 due=5

section
variable {Tl : List Addr} {P : Program} {w : World} {K : PySem.W.Frag} {mg : Str → Option Value} {base : Heap}
def spNeedAlike (Tl : List Addr) : Sp := fun vs H Q _ => ∃ (wv : V) (W : Web) (a b : Nat), vs = [wv, nI a, nI b] ∧ IsW H wv W ∧ Ok W ∧ Tbs Tl H ∧ a < W.length ∧ b < W.length ∧ a ≠ b ∧ Alike W a b ∧ ∀ H', Sm H H' → Q .non H'
theorem cal_need_alike {f : Addr} {fd : FuncData} (F : C8.Def K mg "need_alike" st_need_alike f fd) (b : Binds K fd ["web", "one", "other"] []) (G : Glob mg) (c_need_two : C8.Cal P w K mg base 7 "need_two" (spNeedTwo Tl) []) (c_lots_of : C8.Cal P w K mg base 1 "lots_of" spLots []) : C8.Cal P w K mg base 8 "need_alike" (spNeedAlike Tl) [] := by
  refine C8.cal0 (k := 7) F b .nil sc_need_alike (fun vs H Q E h => ?_) (fun cdv A outer s H vs Q E hr h => ?_)
  · obtain ⟨_, _, _, _, rfl, _⟩ := h
    rfl
  · obtain ⟨wv, W, a, b, rfl, hW, ok, hT, ha, hb, hne, al, q⟩ := h
    refine ⟨_, (pss_cons (ps_expr (C8.pe_c c_need_two hr (by decide) (by rfl) (pa_cons (pv 0) (pa_cons (pv 1) (pa_cons (pv 2) pa_nil)))))
    (pss_cons (ps_set (i := 3) sc_need_alike.nd rfl (.inl rfl) (C8.pe_c c_lots_of hr (by decide) (by rfl) (pa_cons (pv 0) pa_nil)))
    (pss_one (ps_if (pt_cmpR op_ne (pe_ix ix_list (pv 3) (pv 1) (fun _ _ => rfl)) (pe_ix ix_list (pv 3) (pv 2) (fun _ _ => rfl)) (nomark _)) 
      (pss_one ps_never) pss_nil)))), ?_⟩
    refine ⟨_, rfl, _, rfl, _, rfl, wv, W, a, b, rfl, hW, ok, hT, ha, hb, hne, fun H0 sm0 => ⟨_, rfl, wv, W, rfl, hW.mono sm0.tk, ok, fun H1 p l sm np hp hl hal => ?_⟩⟩
    have g : ∀ r, r < W.length → (l.map nI)[r]? = some (nI (l.getD r 0)) := fun r hr => by
      have h : r < l.length := by omega
      rw [List.getElem?_map, List.getD_eq_getElem?_getD, List.getElem?_eq_getElem h]; rfl
    exact ⟨_, rfl, _, rfl, r_ixL hp (g a ha) ⟨_, rfl, _, rfl, r_ixL hp (g b hb) ⟨rfl, _, rfl, ifF (ne_no ((hal a b ha hb).mpr al)) (q H1 (sm0.trans sm))⟩⟩⟩
def spShrink (Tl : List Addr) : Sp := fun vs H Q _ => ∃ (wv : V) (W : Web) (a b : Nat), vs = [wv, nI a, nI b] ∧ IsW H wv W ∧ Ok W ∧ Tbs Tl H ∧ a < W.length ∧ b < W.length ∧ a ≠ b ∧ Alike W a b ∧ ∀ H', Sm H H' → Q (nI (shr W a b)) H'
theorem cal_shrink {f : Addr} {fd : FuncData} (F : C8.Def K mg "shrink" st_shrink f fd) (b : Binds K fd ["web", "one", "other"] []) (G : Glob mg) (c_need_alike : C8.Cal P w K mg base 8 "need_alike" (spNeedAlike Tl) []) (c_near_rows : C8.Cal P w K mg base 3 "near_rows" spNear []) : C8.Cal P w K mg base 9 "shrink" (spShrink Tl) [] := by
  refine C8.cal0 (k := 8) F b .nil sc_shrink (fun vs H Q E h => ?_) (fun cdv A outer s H vs Q E hr h => ?_)
  · obtain ⟨_, _, _, _, rfl, _⟩ := h
    rfl
  · obtain ⟨wv, W, a, b, rfl, hW, ok, hT, ha, hb, hne, al, q⟩ := h
    refine ⟨_, (pss_cons (ps_expr (C8.pe_c c_need_alike hr (by decide) (by rfl) (pa_cons (pv 0) (pa_cons (pv 1) (pa_cons (pv 2) pa_nil)))))
    (pss_one (ps_ret (pe_callB (id := "min") (cr_minK rfl) (by rfl) G.min (by decide +kernel) (pa_cons (C8.pe_c c_near_rows hr (by decide) (by rfl) (pa_cons (pv 0) (pa_cons (pv 1) (pa_cons (pv 2) pa_nil)))) pa_nil))))), ?_⟩
    refine ⟨_, rfl, _, rfl, _, rfl, wv, W, a, b, rfl, hW, ok, hT, ha, hb, hne, al, fun H1 sm => ⟨_, rfl, _, rfl, _, rfl, wv, W, a, b, rfl, hW.mono sm.tk, ok, ha, hb, al, fun H2 p2 ns sm2 np2 nf => ?_⟩⟩
    exact r_minNear nf (q H2 (sm.trans sm2))
/-- a row that shows the shrink -/
def Shw (W : Web) (a b : Nat) (row : List Nat) : Prop := row.length = srl W a b ∧ ∃ x y, go W a row = some x ∧ go W b row = some y ∧ dist W x y = shr W a b
theorem nf_get {W : Web} {a b : Nat} {H : Hp} {p : Addr} {ns : List (Nat × PE2)} (nf : NF H W a b p ns) : ∃ ra row, DGet H p (nI (shr W a b)) (some (.ref ra)) ∧ H ra = some (.tup (row.map nI)) ∧ Shw W a b row := by
  obtain ⟨k, hk, e⟩ : ∃ z ∈ ns, z.1 = shr W a b := by
    have z := (nf.keys (shr W a b)).mpr (shr_is W a b).at_
    obtain ⟨q, h1, h2⟩ := List.mem_map.mp z
    exact ⟨q, h1, h2⟩
  obtain ⟨k0, e0⟩ := k
  have e : k0 = shr W a b := e
  subst e
  obtain ⟨⟨ra, e2, hra⟩, h2, h3, h4⟩ := nf.row _ _ hk
  refine ⟨ra, e0.2.2, ?_, hra, (srl_of h2).symm, e0.1.1, e0.1.2, h3, h4, nf.key _ _ hk⟩
  have z := DGet.k (k := Sum.inl (shr W a b : Int)) nf.at_
  rwa [show valV (encN ns) (Sum.inl (shr W a b : Int)) = some (V.ref ra) by rw [← e2]; exact val_some (f := fun x : Nat => (Sum.inl (x : Int) : Key)) inlN_inj (g := fun z : PE2 => z.2.1) nf.nd hk] at z
theorem r_minV {W : Web} {a b : Nat} {H : Hp} {p : Addr} {ns : List (Nat × PE2)} {Q : VK} {σ : L2.St} {j : Nat} (hx : σ[j]? = some (some (.ref p))) (nf : NF H W a b p ns) (q : Q (nI (shr W a b)) H) : tCB rMinK (tCons (tVar j) tNil) σ H Q := ⟨_, hx, r_minNear nf q⟩
def spShrinkRow (Tl : List Addr) : Sp := fun vs H Q _ => ∃ (wv : V) (W : Web) (a b : Nat), vs = [wv, nI a, nI b] ∧ IsW H wv W ∧ Ok W ∧ Tbs Tl H ∧ a < W.length ∧ b < W.length ∧ a ≠ b ∧ Alike W a b ∧ ∀ H' ra row, Sm H H' → H' ra = some (.tup (row.map nI)) → Shw W a b row → Q (.ref ra) H'
theorem cal_shrink_row {f : Addr} {fd : FuncData} (F : C8.Def K mg "shrink_row" st_shrink_row f fd) (b : Binds K fd ["web", "one", "other"] []) (G : Glob mg) (c_need_alike : C8.Cal P w K mg base 8 "need_alike" (spNeedAlike Tl) []) (c_near_rows : C8.Cal P w K mg base 3 "near_rows" spNear []) : C8.Cal P w K mg base 9 "shrink_row" (spShrinkRow Tl) [] := by
  refine C8.cal0 (k := 8) F b .nil sc_shrink_row (fun vs H Q E h => ?_) (fun cdv A outer s H vs Q E hr h => ?_)
  · obtain ⟨_, _, _, _, rfl, _⟩ := h
    rfl
  · obtain ⟨wv, W, a, b, rfl, hW, ok, hT, ha, hb, hne, al, q⟩ := h
    refine ⟨_, (pss_cons (ps_expr (C8.pe_c c_need_alike hr (by decide) (by rfl) (pa_cons (pv 0) (pa_cons (pv 1) (pa_cons (pv 2) pa_nil)))))
    (pss_cons (ps_set (i := 3) sc_shrink_row.nd rfl (.inl rfl) (C8.pe_c c_near_rows hr (by decide) (by rfl) (pa_cons (pv 0) (pa_cons (pv 1) (pa_cons (pv 2) pa_nil)))))
    (pss_one (ps_ret (pe_dget (hu_of hr) (pv 3) (pe_callB (id := "min") (cr_minK rfl) (by rfl) G.min (by decide +kernel) (pa_cons (pv 3) pa_nil)) (fun _ _ => rfl)))))), ?_⟩
    refine ⟨_, rfl, _, rfl, _, rfl, wv, W, a, b, rfl, hW, ok, hT, ha, hb, hne, al, fun H1 sm => ⟨_, rfl, _, rfl, _, rfl, wv, W, a, b, rfl, hW.mono sm.tk, ok, ha, hb, al, fun H2 p2 ns sm2 np2 nf => ?_⟩⟩
    obtain ⟨ra, row, g1, g2, g3⟩ := nf_get nf
    exact ⟨_, rfl, r_minV rfl nf ⟨p2, _, rfl, g1, q H2 ra row (sm.trans sm2) g2 g3⟩⟩
/-- not a row -/
def NoRow (H : Hp) (v : V) : Prop := (∃ n, n ≠ "tuple" ∧ Kd H v n) ∨ (∃ a xs, v = .ref a ∧ H a = some (.tup xs) ∧ 1000 < xs.length) ∨ (∃ a x, v = .ref a ∧ H a = some (.tup [x]) ∧ (x = .int 4 ∨ x = .bl true))
theorem Kd.sm {H H' : Hp} {v : V} {n : String} (e : Sm H H') (k : Kd H v n) : Kd H' v n := by
  cases k with
  | non => exact .non
  | bl b => exact .bl b
  | int i => exact .int i
  | str s => exact .str s
  | lst h => exact .lst (e.at_ _ _ rfl h)
  | tup h => exact .tup (e.at_ _ _ rfl h)
  | dK h => exact .dK (e.at_ _ _ rfl h)
theorem NoRow.sm {H H' : Hp} {v : V} (e : Sm H H') (h : NoRow H v) : NoRow H' v := by
  rcases h with ⟨n, hn, k⟩ | ⟨a, xs, h1, h2, h3⟩ | ⟨a, x, h1, h2, h3⟩
  · exact .inl ⟨n, hn, k.sm e⟩
  · exact .inr (.inl ⟨a, xs, h1, e.tk _ _ h2, h3⟩)
  · exact .inr (.inr ⟨a, x, h1, e.tk _ _ h2, h3⟩)
def spShows (Tl : List Addr) : Sp := fun vs H Q _ => ∃ (wv v : V) (W : Web) (a b : Nat), vs = [wv, nI a, nI b, v] ∧ IsW H wv W ∧ Ok W ∧ Tbs Tl H ∧ a < W.length ∧ b < W.length ∧ a ≠ b ∧ Alike W a b ∧
  ((∃ row, IsR H v row ∧ row.length ≤ 900 ∧ (∀ x ∈ row, x < 4) ∧ ∀ H' r, Sm H H' → (r = true → Shw W a b row) → (Shw W a b row → r = true) → Q (.bl r) H') ∨ (NoRow H v ∧ ∀ H', Sm H H' → Q (.bl false) H'))
theorem cal_shows_shrink_row {f : Addr} {fd : FuncData} (F : C8.Def K mg "shows_shrink_row" st_shows_shrink_row f fd) (b : Binds K fd ["web", "one", "other", "value"] []) (G : Glob mg) (c_need_alike : C8.Cal P w K mg base 8 "need_alike" (spNeedAlike Tl) []) (c_near_rows : C8.Cal P w K mg base 3 "near_rows" spNear []) (c_is_row : C8.Cal P w K mg base 5 "is_row" (spIsRow Tl) []) (c_seen_on : C8.Cal P w K mg base 1 "seen_on" spSeen []) (c_far : C8.Cal P w K mg base 2 "far" spFar []) : C8.Cal P w K mg base 9 "shows_shrink_row" (spShows Tl) [] := by
  refine C8.cal0 (k := 8) F b .nil sc_shows_shrink_row (fun vs H Q E h => ?_) (fun cdv A outer s H vs Q E hr h => ?_)
  · obtain ⟨_, _, _, _, _, rfl, _⟩ := h
    rfl
  · obtain ⟨wv, v, W, a, b, rfl, hW, ok, hT, ha, hb, hne, al, h⟩ := h
    refine ⟨_, (pss_cons (ps_expr (C8.pe_c c_need_alike hr (by decide) (by rfl) (pa_cons (pv 0) (pa_cons (pv 1) (pa_cons (pv 2) pa_nil)))))
    (pss_cons (ps_set (i := 4) sc_shows_shrink_row.nd rfl (.inl rfl) (C8.pe_c c_near_rows hr (by decide) (by rfl) (pa_cons (pv 0) (pa_cons (pv 1) (pa_cons (pv 2) pa_nil)))))
    (pss_cons (ps_set (i := 5) sc_shows_shrink_row.nd rfl (.inl rfl) (pe_dget (hu_of hr) (pv 4) (pe_callB (id := "min") (cr_minK rfl) (by rfl) G.min (by decide +kernel) (pa_cons (pv 4) pa_nil)) (fun _ _ => rfl)))
    (pss_cons (ps_if (PW.pt (pw_or (pt_not (pt_val (C8.pe_c c_is_row hr (by decide) (by rfl) (pa_cons (pv 3) pa_nil)))) (pw_or (pt_cmpR op_ne (pe_callB (id := "len") call_len_seq (by rfl) G.len (by decide +kernel) (pa_cons (pv 3) pa_nil)) (pe_callB (id := "len") call_len_seq (by rfl) G.len (by decide +kernel) (pa_cons (pv 5) pa_nil)) (nomark _)) (pw_or1 (pt_cmpR op_isN (C8.pe_c c_seen_on hr (by decide) (by rfl) (pa_cons (pv 0) (pa_cons (pv 1) (pa_cons (pv 3) pa_nil)))) pe_non (nomark _)))))) 
      (pss_one (ps_ret pe_bl)) pss_nil)
    (pss_one (ps_ret (pe_cmpR op_eq (C8.pe_c c_far hr (by decide) (by rfl) (pa_cons (pv 0) (pa_cons (pe_tup (pa_cons (pe_ix ix_tup (C8.pe_c c_seen_on hr (by decide) (by rfl) (pa_cons (pv 0) (pa_cons (pv 1) (pa_cons (pv 3) pa_nil)))) pe_int (fun _ _ => rfl)) (pa_cons (pe_ix ix_tup (C8.pe_c c_seen_on hr (by decide) (by rfl) (pa_cons (pv 0) (pa_cons (pv 2) (pa_cons (pv 3) pa_nil)))) pe_int (fun _ _ => rfl)) pa_nil))) pa_nil))) (pe_callB (id := "min") (cr_minK rfl) (by rfl) G.min (by decide +kernel) (pa_cons (pv 4) pa_nil)) (nomark _)))))))), ?_⟩
    refine ⟨_, rfl, _, rfl, _, rfl, wv, W, a, b, rfl, hW, ok, hT, ha, hb, hne, al, fun H1 sm => ⟨_, rfl, _, rfl, _, rfl, wv, W, a, b, rfl, hW.mono sm.tk, ok, ha, hb, al, fun H2 p2 ns sm2 np2 nf => ?_⟩⟩
    obtain ⟨ra, due, g1, g2, g3⟩ := nf_get nf
    have s2 := sm.trans sm2
    refine ⟨_, rfl, r_minV rfl nf ⟨p2, _, rfl, g1, _, rfl, v, rfl, s2.tbs hT, ?_⟩⟩
    rcases h with ⟨row, ⟨va, rfl, hv⟩, hl, h4, q⟩ | ⟨hn, q⟩
    · refine .inr (.inr (.inl ⟨va, row, rfl, s2.tk _ _ hv, by omega, h4, fun H3 s3 => ⟨true, rfl, iteF ?_⟩⟩))
      have s3' := s2.trans s3
      have hv3 := s3'.tk _ _ hv
      refine ⟨_, rfl, va, _, rfl, .inr (SqT.of hv3), _, rfl, ra, _, rfl, .inr (SqT.of (s3.tk _ _ g2)), rfl, _, rfl, ?_⟩
      rw [List.length_map, List.length_map]
      by_cases hlen : row.length = due.length
      · refine ifF (ne_no hlen) ⟨_, rfl, _, rfl, _, rfl, wv, .ref va, W, a, row, rfl, hW.mono s3'.tk, ok, ha, ⟨va, rfl, hv3⟩, hl, fun hg H4 s4 => ?_, fun t hg H4 p x s4 np hp => ?_⟩
        · -- no such row
          refine ⟨rfl, _, rfl, ifT rfl (q H4 false (s3'.trans s4) (fun z => nomatch z) fun ⟨_, x, y, e1, _⟩ => ?_)⟩
          rw [hg] at e1
          cases e1
        · refine ⟨rfl, _, rfl, ifF rfl ?_⟩
          obtain ⟨u, hu, hal⟩ := al.go row hg
          have s4' := s3'.trans s4
          refine ⟨_, rfl, _, rfl, _, rfl, _, rfl, wv, .ref va, W, a, row, rfl, hW.mono s4'.tk, ok, ha, ⟨va, rfl, s4'.tk _ _ hv⟩, hl, fun hg2 => ?_, fun t2 hg2 H5 p5 x5 s5 np5 hp5 => ?_⟩
          · rw [hg] at hg2; cases hg2
          rw [hg] at hg2
          obtain rfl := Option.some.inj hg2
          refine ⟨p5, _, 0, _, rfl, rfl, SqT.of hp5, rfl, ?_⟩
          have s5' := s4'.trans s5
          refine ⟨_, rfl, _, rfl, _, rfl, wv, .ref va, W, b, row, rfl, hW.mono s5'.tk, ok, hb, ⟨va, rfl, s5'.tk _ _ hv⟩, hl, fun hg3 => ?_, fun t3 hg3 H6 p6 x6 s6 np6 hp6 => ?_⟩
          · rw [hu] at hg3; cases hg3
          rw [hu] at hg3
          obtain rfl := Option.some.inj hg3
          refine ⟨p6, _, 0, _, rfl, rfl, SqT.of hp6, rfl, by show 2 ≤ sizeLine; decide, fun tp ntp => ?_⟩
          have s7 : Sm H6 (upd H6 tp (.tup [nI t, nI u])) := Sm.new ntp
          have s7' := (s5'.trans s6).trans s7
          refine ⟨wv, .ref tp, W, t, u, rfl, hW.mono s7'.tk, ok, ⟨tp, rfl, upd_same⟩, go_lt ok _ _ _ ha hg, go_lt ok _ _ _ hb hu, fun H8 s8 => ?_⟩
          have nf8 : NF H8 W a b p2 ns := by
            have sA := ((((s3.trans s4).trans s5).trans s6).trans s7).trans s8
            exact ⟨sA.at_ _ _ rfl nf.at_, nf.nd, fun k e h => ⟨(nf.row k e h).1.mono sA.tk, (nf.row k e h).2⟩, nf.keys, nf.key, nf.ne, nf.small⟩
          refine r_minV rfl nf8 ⟨rfl, q H8 _ (s7'.trans s8) (fun e => ?_) fun ⟨_, x', y', e1, e2, e3⟩ => ?_⟩
          · rw [nEq, decide_eq_true_iff] at e
            exact ⟨by rw [hlen, g3.1], t, u, hg, hu, e⟩
          · rw [hg] at e1
            rw [hu] at e2
            rw [Option.some.inj e1, Option.some.inj e2]
            exact eq_yes e3
      · refine ifT (ne_yes hlen) (q H3 false s3' (fun z => nomatch z) fun ⟨e, _⟩ => ?_)
        exact (hlen (by rw [e, g3.1])).elim
    · have hn2 := hn.sm s2
      rcases hn2 with ⟨n, hn, k⟩ | ⟨a', xs, h1, h2, h3⟩ | ⟨a', x, h1, h2, h3⟩
      · exact .inl ⟨n, hn, k, false, rfl, iteT (q _ s2)⟩
      · exact .inr (.inl ⟨a', xs, h1, h2, h3, false, rfl, iteT (q _ s2)⟩)
      · exact .inr (.inr (.inr ⟨a', x, h1, h2, h3, fun H3 s3 => ⟨false, rfl, iteT (q _ (s2.trans s3))⟩⟩))
end
end K2
namespace K2
open PySem PySem.Spec PyProof.Rows L2
/-- a tuple of one thing, 2 to 2000 times over -/
def rRep1 (K : PySem.W.Frag) : R2 := fun x y H Q => ∃ l k z, x = .ref l ∧ y = .int k ∧ SqT K H l [z] ∧ 2 ≤ k ∧ k ≤ 2000 ∧ ∀ p, H p = none → Q (.ref p) (upd H p (.tup (List.replicate k.toNat [z]).flatten))
theorem op_rep1 {X : Cx} : OpR X (binaryOp .Mult) (rRep1 X.K) := by
  intro pins s σ H x y v u Q I rx ry h
  obtain ⟨l, k, z, rfl, rfl, hT, h1, h2, q⟩ := h
  cases rx
  obtain ⟨t, rfl⟩ := ry
  obtain ⟨its, r, ⟨⟨cls, dd, data, sl⟩, ho, hc, n, hd⟩, hs⟩ := I.tuple hT
  simp only at hc hd
  subst hc hd
  have hle : its.length = 1 := r.length.symm
  obtain ⟨i0, rfl⟩ : ∃ i0, its = [i0] := by
    match its, hle with
    | [i0], _ => exact ⟨i0, rfl⟩
  have flen : (List.replicate k.toNat [i0]).flatten.length ≤ sizeLine := by
    rw [PyProof.Rows.lm_len_rep_flat, sizeLine_eq]
    show k.toNat * 1 ≤ _
    omega
  have c0 : (decide (k < -(2 ^ 63)) || decide (k ≥ 2 ^ 63)) = false := by
    rw [decide_eq_false (by omega), decide_eq_false (by omega)] <;> rfl
  have c1 : (([i0] : List Value).toArray.isEmpty || k == 1) = false := by
    show (false || k == 1) = false
    rw [Bool.false_or]
    exact beq_eq_false_iff_ne.mpr (by omega)
  have c2 : (decide (k ≤ 0) || ([i0] : List Value).toArray.isEmpty) = false := by
    show (decide (k ≤ 0) || false) = false
    rw [Bool.or_false]
    exact decide_eq_false (by omega)
  have c3 : ¬ ((([i0] : List Value).toArray.size : Nat) : Int) * k > (2 ^ 63 - 1) / 8 := by
    show ¬ ((1 : Nat) : Int) * k > (2 ^ 63 - 1) / 8
    omega
  have c4 : Builtin.Tuple.tupleTooMany (((([i0] : List Value).toArray.size : Nat) : Int) * k) = false := by
    unfold Builtin.Tuple.tupleTooMany
    rw [sizeLine_eq]
    refine decide_eq_false ?_
    show ¬ ((1 : Nat) : Int) * k > _
    omega
  refine wpAny_binaryOp_repeat_ref (T := "tuple") (U := "int") (by decide) ⟨_, ho, rfl⟩ (fun s' => typeIs_int s' k t) noFill_tuple_mul F.fills_int_mul F.slot_int_rmul repeat_tuple F.slot_int_index.lookup
    (call_meets F.slot_int_rmul (typeIs_int s k t) F.entry_int_rmul (F.args_int_rmul_2 _ _) (int_rmul_tuple k t l [i0].toArray n dd sl)
      ⟨ho, rfl, ⟨_, ho, rfl⟩, call_meets F.slot_tuple_mul ⟨_, ho, rfl⟩ F.entry_tuple_mul (F.args_tuple_mul_2 _ _) (tuple_mulW l [i0].toArray n dd sl k t c0 c1 c2 c3 c4 (by rw [size_rep, List.size_toArray]; exact flen)) ⟨ho, ?_⟩⟩)
  rw [size_rep]
  refine ⟨.ref s.heap.objs.size, _, I.laid (t' := s.toks) (o := .tup (List.replicate k.toNat [z]).flatten) (fun b ob q => Heap.get?_push_of_some _ q) (Nat.le_refl _) ?_, rfl, q _ (I.hok.fresh (Nat.le_refl _))⟩
  refine ⟨?_, _, r.rep k.toNat, IsTup.new _ _⟩
  rw [PyProof.Rows.lm_len_rep_flat, sizeLine_eq]
  show k.toNat * 1 ≤ _
  omega
end K2
namespace K2
section
variable {α : Type} {S : α → α → Prop} {s : α}
theorem md_chain : ∀ (k : Nat) (y : α), Md S s k y → ∃ l : List α, l.length = k + 1 ∧ l.Nodup ∧ ∀ x ∈ l, ∃ j, j ≤ k ∧ Md S s j x
  | 0, y, h => ⟨[y], rfl, by simp, fun x hx => ⟨0, Nat.le_refl _, by rw [List.mem_singleton.mp hx]; exact h⟩⟩
  | k + 1, y, h => by
    obtain ⟨x, hx, _⟩ := h.pred
    obtain ⟨l, h1, h2, h3⟩ := md_chain k x hx
    refine ⟨y :: l, by rw [List.length_cons, h1], ?_, fun z hz => ?_⟩
    · rw [List.nodup_cons]
      refine ⟨fun hy => ?_, h2⟩
      obtain ⟨j, hj, m⟩ := h3 y hy
      have := m.uniq h
      omega
    · rcases List.mem_cons.mp hz with rfl | hz
      · exact ⟨k + 1, Nat.le_refl _, h⟩
      · obtain ⟨j, hj, m⟩ := h3 z hz
        exact ⟨j, by omega, m⟩
end
theorem nr_le {W : Web} (ok : Ok W) {a b k j : Nat} (ha : a < W.length) (hb : b < W.length) (n : Nr W a b k j) : j ≤ 48 := by
  obtain ⟨p, h1, _⟩ := n.at_
  obtain ⟨l, h2, h3, h4⟩ := md_chain j p h1
  have z := nd_le l (sq W.length) h3 fun x hx => by
    obtain ⟨i, _, m⟩ := h4 x hx
    exact mem_sq.mpr (lv_lt ok ha hb m.1)
  rw [len_sq] at z
  have n7 := ok.n7
  have : W.length * W.length ≤ 7 * 7 := Nat.mul_le_mul n7 n7
  omega
theorem srl_le {W : Web} (ok : Ok W) {a b : Nat} (ha : a < W.length) (hb : b < W.length) : srl W a b ≤ 48 := nr_le ok ha hb (srl_is W a b)
theorem go_lt4 {W : Web} (ok : Ok W) : ∀ (row : List Nat) (r t : Nat), go W r row = some t → ∀ d ∈ row, d < 4
  | [], _, _, _, d, hd => by cases hd
  | e :: row, r, t, h, d, hd => by
    rw [go_cons] at h
    cases hdo : door W r e with
    | none => rw [hdo] at h; cases h
    | some p =>
      rw [hdo] at h
      rcases List.mem_cons.mp hd with rfl | hd
      · exact Nat.lt_of_lt_of_le (door_lt hdo).2 ok.deg4
      · exact go_lt4 ok row p.1 t h d hd
end K2
namespace K2
open PySem PySem.Spec PyProof.Rows L2
abbrev st_law_rows_told : Stmt := topS 57
theorem sc_law_rows_told : FnScope ["_law_row", "_law_web_here", "_law_one", "_law_other", "_law_least", "_law_near_here", "_law_doors", "_law_turn", "_law_some", "_law_mine", "_law_fine", "_law_bad", "_law_step"] ["_law_row", "_law_web_here", "_law_one", "_law_other", "_law_least", "_law_near_here"] (C8.fnScope st_law_rows_told) := C8.fnScope_by (by decide +kernel)
-- slots: _law_row=0 _law_web_here=1 _law_one=2 _law_other=3 _law_least=4 _law_near_here=5 _law_doors=6 _law_turn=7 _law_some=8 _law_mine=9 _law_fine=10 _law_bad=11 _law_step=12

section
variable {P : Program} {w : World} {K : PySem.W.Frag} {mg : Str → Option Value} {base : Heap} {Tl : List Addr}
theorem LN.get {H : Hp} {W : Web} {a b : Nat} {p : Addr} {ks : List (Nat × Nat)} (h : LN H W a b p ks) : DGet H p (nI (shr W a b)) (some (nI (srl W a b))) := by
  obtain ⟨k, hk, e⟩ : ∃ z ∈ ks, z.1 = shr W a b := by
    have z := (h.keys (shr W a b)).mpr (shr_is W a b).at_
    obtain ⟨q, h1, h2⟩ := List.mem_map.mp z
    exact ⟨q, h1, h2⟩
  obtain ⟨k0, j0⟩ := k
  have e : k0 = shr W a b := e
  subst e
  have ej := srl_of (h.nr _ _ hk)
  subst ej
  have z := DGet.k (k := Sum.inl (shr W a b : Int)) h.at_
  rwa [show valV (encR ks) (Sum.inl (shr W a b : Int)) = some (nI (srl W a b)) from val_some (f := fun x : Nat => (Sum.inl (x : Int) : Key)) inlN_inj h.nd hk] at z
def spRT (K : PySem.W.Frag) (Tl : List Addr) : Sp := fun vs H Q _ => ∃ (a sa p : Addr) (ns : List Int) (wv : V) (W : Web) (x y : Nat) (ks : List (Nat × Nat)), vs = [.ref a, wv, nI x, nI y, nI (shr W x y), .ref p] ∧ Rw K sa ns a H ∧ IsW H wv W ∧ Ok W ∧ Tbs Tl H ∧ x < W.length ∧ y < W.length ∧ x ≠ y ∧ Alike W x y ∧ LN H W x y p ks ∧ ∀ H', Dw K sa ns a H H' → Q (.bl true) H'
theorem cal_law_rows_told {f : Addr} {fd : FuncData} (F : C8.Def K mg "_law_rows_told" st_law_rows_told f fd) (b : Binds K fd ["_law_row", "_law_web_here", "_law_one", "_law_other", "_law_least", "_law_near_here"] []) (G : Glob mg) (c_shrink_row : C8.Cal P w K mg base 9 "shrink_row" (spShrinkRow Tl) []) (c_shrink : C8.Cal P w K mg base 9 "shrink" (spShrink Tl) []) (c_shows_shrink_row : C8.Cal P w K mg base 9 "shows_shrink_row" (spShows Tl) []) (c_law_far : C8.Cal P w K mg base 1 "_law_far" spLFar []) (c_law_seen : C8.Cal P w K mg base 1 "_law_seen" spSeen []) (c_law_taken : C8.Cal P w K mg base 1 "_law_taken" (spTaken K) []) (c_law_alike : C8.Cal P w K mg base 1 "_law_alike" (spAl 0) []) : C8.Cal P w K mg base 10 "_law_rows_told" (spRT K Tl) [] := by
  refine C8.cal0 (k := 9) F b .nil sc_law_rows_told (fun vs H Q E h => ?_) (fun cdv A outer s H vs Q E hr h => ?_)
  · obtain ⟨_, _, _, _, _, _, _, _, _, rfl, _⟩ := h
    rfl
  · obtain ⟨a, sa, p, ns, wv, W, x, y, ks, rfl, rw0, hW, ok, hT, hx, hy, hne, al, ln, q⟩ := h
    refine ⟨_, (pss_cons (ps_set (i := 6) sc_law_rows_told.nd rfl (.inl rfl) (C8.pe_c c_shrink_row hr (by decide) (by rfl) (pa_cons (pv 1) (pa_cons (pv 2) (pa_cons (pv 3) pa_nil)))))
    (pss_cons (ps_if (PW.pt (pw_or (pt_cmpR op_ne (C8.pe_c c_shrink hr (by decide) (by rfl) (pa_cons (pv 1) (pa_cons (pv 2) (pa_cons (pv 3) pa_nil)))) (pv 4) (nomark _)) (pw_or (pt_cmpR op_ne (pe_callB (id := "len") call_len_seq (by rfl) G.len (by decide +kernel) (pa_cons (pv 6) pa_nil)) (pe_dget (hu_of hr) (pv 5) (pv 4) (fun _ _ => rfl)) (nomark _)) (pw_or1 (pt_cmpR op_notBl (C8.pe_c c_shows_shrink_row hr (by decide) (by rfl) (pa_cons (pv 1) (pa_cons (pv 2) (pa_cons (pv 3) (pa_cons (pv 6) pa_nil))))) pe_bl (nomark _)))))) 
      (pss_one (ps_ret pe_bl)) pss_nil)
    (pss_cons (ps_if (pt_cmpR op_ne (C8.pe_c c_law_far hr (by decide) (by rfl) (pa_cons (pv 1) (pa_cons (pe_ix ix_tup (C8.pe_c c_law_seen hr (by decide) (by rfl) (pa_cons (pv 1) (pa_cons (pv 2) (pa_cons (pv 6) pa_nil)))) pe_int (fun _ _ => rfl)) (pa_cons (pe_ix ix_tup (C8.pe_c c_law_seen hr (by decide) (by rfl) (pa_cons (pv 1) (pa_cons (pv 3) (pa_cons (pv 6) pa_nil)))) pe_int (fun _ _ => rfl)) pa_nil)))) (pv 4) (nomark _)) 
      (pss_one (ps_ret pe_bl)) pss_nil)
    (pss_cons (ps_for PassesOwn.never rfl (pi_range1 (by rfl) G.range (pa_cons pe_int pa_nil)) (pg_name (i := 7) sc_law_rows_told.nd rfl (.inl rfl)) 
      (pss_cons (ps_set (i := 8) sc_law_rows_told.nd rfl (.inl rfl) (pe_tupleOf (by rfl) G.tuple (pe_lc (own := [("_law_step", 12)]) (g := gName 12) (tt := tYes) rfl sc_law_rows_told.nd (pi_range1 (by rfl) G.range (pa_cons (pe_ifExp (pt_cmpR op_lt (pv 7) pe_int (nomark _)) (pe_callB (id := "len") call_len_seq (by rfl) G.len (by decide +kernel) (pa_cons (pv 6) pa_nil)) (C8.pe_c c_law_taken hr (by decide) (by rfl) (pa_cons (pv 0) (pa_cons pe_int pa_nil)))) pa_nil)) (blkOk_by (own := [("_law_step", 12)]) (N := ["_law_row", "_law_web_here", "_law_one", "_law_other", "_law_least", "_law_near_here", "_law_doors", "_law_turn", "_law_some", "_law_mine", "_law_fine", "_law_bad", "_law_step"]) (sc := C8.fnScope st_law_rows_told) (by decide +kernel)) (fun _ _ _ _ _ => (pg_name (i := 12) sc_law_rows_told.nd rfl (.inl rfl))) (fun _ _ _ _ _ => pts_nil) (fun _ _ _ _ _ => (C8.pe_c c_law_taken hr (by decide) (by rfl) (pa_cons (pv 0) (pa_cons pe_int pa_nil)))))))
      (pss_cons (ps_set (i := 9) sc_law_rows_told.nd rfl (.inl rfl) (C8.pe_c c_law_seen hr (by decide) (by rfl) (pa_cons (pv 1) (pa_cons (pv 2) (pa_cons (pv 8) pa_nil)))))
      (pss_cons (ps_set (i := 10) sc_law_rows_told.nd rfl (.inl rfl) (pe_and (pe_cmpR op_notN (pv 9) pe_non (nomark _)) (pe_one (pe_cmpR op_eq (pe_callB (id := "len") call_len_seq (by rfl) G.len (by decide +kernel) (pa_cons (pv 8) pa_nil)) (pe_callB (id := "len") call_len_seq (by rfl) G.len (by decide +kernel) (pa_cons (pv 6) pa_nil)) (nomark _)))))
      (pss_cons (ps_set (i := 10) sc_law_rows_told.nd rfl (.inl rfl) (pe_and (pv 10) (pe_one (pe_cmpR op_eq (C8.pe_c c_law_far hr (by decide) (by rfl) (pa_cons (pv 1) (pa_cons (pe_ix ix_tup (pv 9) pe_int (fun _ _ => rfl)) (pa_cons (pe_ix ix_tup (C8.pe_c c_law_seen hr (by decide) (by rfl) (pa_cons (pv 1) (pa_cons (pv 3) (pa_cons (pv 8) pa_nil)))) pe_int (fun _ _ => rfl)) pa_nil)))) (pv 4) (nomark _)))))
      (pss_one (ps_if (pt_not (pt_val (C8.pe_c c_law_alike hr (by decide) (by rfl) (pa_cons (C8.pe_c c_shows_shrink_row hr (by decide) (by rfl) (pa_cons (pv 1) (pa_cons (pv 2) (pa_cons (pv 3) (pa_cons (pv 8) pa_nil))))) (pa_cons (pv 10) pa_nil))))) 
        (pss_one (ps_ret pe_bl)) pss_nil)))))))
    (pss_cons (ps_for PassesOwn.never rfl (pi_list (pe_lst (pa_cons pe_non (pa_cons (pe_lst (pa_cons pe_int pa_nil)) (pa_cons (pe_tup (pa_cons pe_int pa_nil)) (pa_cons (pe_tup (pa_cons pe_bl pa_nil)) (pa_cons pe_str (pa_cons pe_dnewK (pa_cons pe_int (pa_cons (pe_op op_rep1 (pe_tup (pa_cons pe_int pa_nil)) pe_int) pa_nil)))))))))) (pg_name (i := 11) sc_law_rows_told.nd rfl (.inl rfl)) 
      (pss_one (ps_if (pt_cmpR op_notBl (C8.pe_c c_shows_shrink_row hr (by decide) (by rfl) (pa_cons (pv 1) (pa_cons (pv 2) (pa_cons (pv 3) (pa_cons (pv 11) pa_nil))))) pe_bl (nomark _)) 
        (pss_one (ps_ret pe_bl)) pss_nil)))
    (pss_one (ps_ret pe_bl))))))), ?_⟩
    refine ⟨_, rfl, _, rfl, _, rfl, wv, W, x, y, rfl, hW, ok, hT, hx, hy, hne, al, fun H1 ra due s1 hra shw => ?_⟩
    have hdl : due.length ≤ 48 := by rw [shw.1]; exact srl_le ok hx hy
    obtain ⟨u, v, gu, gv, duv⟩ := shw.2
    have hd4 := go_lt4 ok _ _ _ gu
    refine ⟨_, rfl, _, rfl, _, rfl, wv, W, x, y, rfl, hW.mono s1.tk, ok, s1.tbs hT, hx, hy, hne, al, fun H2 s2 => ⟨_, rfl, rfl, _, rfl, ifF (ne_no (a := shr W x y) (b := shr W x y) rfl) ?_⟩⟩
    have s12 := s1.trans s2
    refine ⟨_, rfl, ra, _, rfl, .inr (SqT.of (s2.tk _ _ hra)), _, rfl, _, rfl, p, _, rfl, LN.get ⟨s12.at_ _ _ rfl ln.at_, ln.nd, ln.nr, ln.keys⟩, rfl, _, rfl, ifF (ne_no (a := (due.map nI).length) (b := srl W x y) (by rw [List.length_map]; exact shw.1)) ?_⟩
    refine ⟨_, rfl, _, rfl, _, rfl, _, rfl, wv, .ref ra, W, x, y, rfl, hW.mono s12.tk, ok, s12.tbs hT, hx, hy, hne, al, .inl ⟨due, ⟨ra, rfl, s2.tk _ _ hra⟩, by omega, hd4, fun H3 r s3 _ r2 => ?_⟩⟩
    obtain rfl : r = true := r2 shw
    refine ⟨true, true, rfl, rfl, _, rfl, ifF rfl ?_⟩
    have s13 := s12.trans s3
    have hra3 := (s2.trans s3).tk _ _ hra
    -- far(..) != least
    refine ⟨_, rfl, _, rfl, _, rfl, _, rfl, wv, .ref ra, W, x, due, rfl, hW.mono s13.tk, ok, hx, ⟨ra, rfl, hra3⟩, by omega, fun hg => ?_, fun t hg H4 p4 x4 s4 np4 hp4 => ?_⟩
    · rw [gu] at hg; cases hg
    rw [gu] at hg
    obtain rfl := Option.some.inj hg
    refine ⟨p4, _, 0, _, rfl, rfl, SqT.of hp4, rfl, ?_⟩
    have s14 := s13.trans s4
    refine ⟨_, rfl, _, rfl, _, rfl, wv, .ref ra, W, y, due, rfl, hW.mono s14.tk, ok, hy, ⟨ra, rfl, s4.tk _ _ hra3⟩, by omega, fun hg => ?_, fun t hg H5 p5 x5 s5 np5 hp5 => ?_⟩
    · rw [gv] at hg; cases hg
    rw [gv] at hg
    obtain rfl := Option.some.inj hg
    have s15 := s14.trans s5
    refine ⟨p5, _, 0, _, rfl, rfl, SqT.of hp5, rfl, wv, W, u, v, rfl, hW.mono s15.tk, ok, go_lt ok _ _ _ hx gu, go_lt ok _ _ _ hy gv, fun H6 s6 => ⟨_, rfl, rfl, _, rfl, ifF (ne_no (a := dist W u v) (b := shr W x y) duv) ?_⟩⟩
    have s16 := s15.trans s6
    have hra6 := (s4.trans (s5.trans s6)).tk _ _ hra3
    have rw6 : Rw K sa ns a H6 := rw0.sm s16
    have hW6 := hW.mono s16.tk
    have hT6 := s16.tbs hT
    have dw06 : Dw K sa ns a H H6 := (Dw.refl rw0).sm s16
    clear s12 s13 s14 s15 s16 s1 s2 s3 s4 s5 s6 hra hra3 hp4 hp5 np4 np5
    refine ⟨_, rfl, by omega, by omega, for_rg (n := (4 : Int).toNat) (fun i σ7 H7 => ∃ (x7 x8 x9 x10 x11 : Option V), σ7 = [some (.ref a), some wv, some (nI x), some (nI y), some (nI (shr W x y)), some (.ref p), some (.ref ra), x7, x8, x9, x10, x11, none] ∧ Dw K sa ns a H6 H7)
      ⟨_, _, _, _, _, rfl, Dw.refl rw6⟩ (fun i σ7 Hq hi h => ?_) (fun σ7 H7 h => ?_)⟩
    · obtain ⟨x7, x8, x9, x10, x11, rfl, dwq⟩ := h
      refine ⟨_, rfl, _, 3, rfl, rfl, _, rfl, ifB (fun _ => ⟨_, rfl, ra, _, rfl, .inr (SqT.of (dwq.tk rw6 _ _ hra6)), ?b1⟩) (fun _ => ⟨_, rfl, a, sa, ns, 4, rfl, by omega, by omega, dwq.rw_, fun _ k dw8 hk4 => ?b2⟩)⟩
      case' b1 =>
        obtain ⟨k, hk0⟩ : ∃ k, k = (due.map nI).length := ⟨_, rfl⟩
        rw [← hk0]
        have hk : k ≤ 48 := by rw [hk0, List.length_map]; exact hdl
        clear hk0
      case' b2 =>
        have hk : k ≤ 48 := by omega
        have dwz := dwq.trans dw8
        clear dwq dw8 hk4
        clear Hq
        rename_i Hq
        have dwq := dwz
        clear dwz
      all_goals
        refine ⟨_, rfl, by omega, by omega, fun D nD => lc_it (walk_rg (n := k)) (fun j Hj => ∃ l : List Nat, Hj D = some (.lst (l.map nI)) ∧ l.length = j ∧ (∀ x ∈ l, x < 4) ∧ Dw K sa ns a H6 Hj) ⟨[], upd_same, rfl, fun x h => (by cases h), dwq.mut rw6 (dwq.sx.no D nD)⟩ (fun _ _ _ _ => trivial) (fun j u' Hk Hj hj h hY => ?_) (fun Hj h => ?_)⟩
        · obtain ⟨l, hD, hl, h4, dwj⟩ := h
          obtain ⟨rfl, rfl⟩ := hY
          have hDa : D ≠ a := (rw6.nd (dwq.sx.no D nD)).1
          refine ⟨rfl, r_yes ⟨_, rfl, a, sa, ns, 4, rfl, by omega, by omega, dwj.rw_, fun H9 c dw9 hc => ⟨_, dw9.lst hD hDa rfl, by rw [List.length_map]; exact small1000 (by omega), l ++ [c], by rw [upd_same, List.map_append]; rfl, by rw [List.length_append, hl]; rfl, fun z hz => ?_, (dwj.trans dw9).mut rw6 (dwq.sx.no D nD)⟩⟩⟩
          rcases List.mem_append.mp hz with h | h
          · exact h4 z h
          · rw [List.mem_singleton.mp h]; exact hc
        · obtain ⟨l, hD, hl, h4, dwj⟩ := h
          refine .inl ⟨D, l.map nI, rfl, SqL.of hD, fun tq ntq => ?_⟩
          have dwk : Dw K sa ns a H6 (upd Hj tq (.tup (l.map nI))) := dwj.add ntq
          have htq : upd Hj tq (.tup (l.map nI)) tq = some (.tup (l.map nI)) := upd_same
          generalize upd Hj tq (.tup (l.map nI)) = Hk at dwk htq ⊢
          have hWk := hW6.mono (dwk.tk rw6)
          have hrak := dwk.tk rw6 _ _ hra6
          have hTk := dwk.sx.tbs hT6
          refine ⟨_, rfl, _, rfl, _, rfl, wv, .ref tq, W, x, l, rfl, hWk, ok, hx, ⟨tq, rfl, htq⟩, by omega, fun hg H8 s8 => ?_, fun t hg H8 p8 x8 s8 np8 hp8 => ?_⟩
          · -- no such row
            refine ⟨_, rfl, rfl, false, rfl, iteF ?_⟩
            refine ⟨_, rfl, false, rfl, iteF ?_⟩
            refine ⟨_, rfl, _, rfl, _, rfl, _, rfl, wv, .ref tq, W, x, y, rfl, hWk.mono s8.tk, ok, s8.tbs hTk, hx, hy, hne, al, .inl ⟨l, ⟨tq, rfl, s8.tk _ _ htq⟩, by omega, h4, fun H9 r s9 r1 _ => ?_⟩⟩
            have er : r = false := by
              cases r with
              | false => rfl
              | true =>
                obtain ⟨_, _, _, e, _⟩ := r1 rfl
                rw [hg] at e; cases e
            subst er
            refine ⟨_, rfl, _, _, rfl, .inr ⟨false, rfl, rfl⟩, fun HA sA => ⟨true, rfl, ifF rfl ⟨_, _, _, _, _, rfl, ((dwk.sm s8).sm s9).sm sA⟩⟩⟩
          · obtain ⟨t2, gt2, alt⟩ := al.go l hg
            have ht := go_lt ok _ _ _ hx hg
            have ht2 := go_lt ok _ _ _ hy gt2
            refine ⟨_, rfl, rfl, true, rfl, iteT ?_⟩
            have s8k := s8
            refine ⟨_, rfl, tq, _, rfl, .inr (SqT.of (s8.tk _ _ htq)), _, rfl, ra, _, rfl, .inr (SqT.of (s8.tk _ _ hrak)), rfl, ?_⟩
            have fin : ∀ (H9 : Hp) (r : Bool) (Qz : VK), Sm Hk H9 → Qz (.bl r) H9 → Qz (.bl r) H9 := fun _ _ _ _ z => z
            rw [List.length_map, List.length_map]
            by_cases hlen : l.length = due.length
            · rw [show decide (V.int (l.length : Int) = V.int (due.length : Int)) = true from eq_yes (a := l.length) (b := due.length) hlen]
              refine ⟨_, rfl, true, rfl, iteT ?_⟩
              refine ⟨_, rfl, _, rfl, p8, _, 0, _, rfl, rfl, SqT.of hp8, rfl, _, rfl, _, rfl, _, rfl, wv, .ref tq, W, y, l, rfl, hWk.mono s8.tk, ok, hy, ⟨tq, rfl, s8.tk _ _ htq⟩, by omega, fun hg2 => ?_, fun t' hg2 H9 p9 x9 s9 np9 hp9 => ?_⟩
              · rw [gt2] at hg2; cases hg2
              rw [gt2] at hg2
              obtain rfl := Option.some.inj hg2
              have s89 := s8.trans s9
              refine ⟨p9, _, 0, _, rfl, rfl, SqT.of hp9, rfl, wv, W, t, t2, rfl, hWk.mono s89.tk, ok, ht, ht2, fun HA sA => ⟨_, rfl, rfl, ?_⟩⟩
              have s8A := s89.trans sA
              rw [show decide (V.int (dist W t t2 : Int) = V.int (shr W x y : Int)) = decide (dist W t t2 = shr W x y) from nEq]
              refine ⟨_, rfl, _, rfl, _, rfl, _, rfl, wv, .ref tq, W, x, y, rfl, hWk.mono s8A.tk, ok, s8A.tbs hTk, hx, hy, hne, al, .inl ⟨l, ⟨tq, rfl, s8A.tk _ _ htq⟩, by omega, h4, fun HB r sB r1 r2 => ?_⟩⟩
              have er : r = decide (dist W t t2 = shr W x y) := by
                by_cases hd : dist W t t2 = shr W x y
                · rw [decide_eq_true hd]
                  exact r2 ⟨by rw [hlen]; exact shw.1, t, t2, hg, gt2, hd⟩
                · rw [decide_eq_false hd]
                  cases r with
                  | false => rfl
                  | true =>
                    obtain ⟨_, t3, t4, e1, e2, e3⟩ := r1 rfl
                    rw [hg] at e1
                    rw [gt2] at e2
                    rw [← Option.some.inj e1, ← Option.some.inj e2] at e3
                    exact absurd e3 hd
              rw [← er]
              refine ⟨_, rfl, _, _, rfl, .inr ⟨r, rfl, rfl⟩, fun HC sC => ⟨true, rfl, ifF rfl ⟨_, _, _, _, _, rfl, ((dwk.sm s8A).sm sB).sm sC⟩⟩⟩
            · rw [show decide (V.int (l.length : Int) = V.int (due.length : Int)) = false from eq_no (a := l.length) (b := due.length) hlen]
              refine ⟨_, rfl, false, rfl, iteF ?_⟩
              refine ⟨_, rfl, _, rfl, _, rfl, _, rfl, wv, .ref tq, W, x, y, rfl, hWk.mono s8.tk, ok, s8.tbs hTk, hx, hy, hne, al, .inl ⟨l, ⟨tq, rfl, s8.tk _ _ htq⟩, by omega, h4, fun H9 r s9 r1 _ => ?_⟩⟩
              have er : r = false := by
                cases r with
                | false => rfl
                | true => exact absurd ((r1 rfl).1.trans shw.1.symm) hlen
              subst er
              refine ⟨_, rfl, _, _, rfl, .inr ⟨false, rfl, rfl⟩, fun HA sA => ⟨true, rfl, ifF rfl ⟨_, _, _, _, _, rfl, ((dwk.sm s8).sm s9).sm sA⟩⟩⟩
    · obtain ⟨x7, x8, x9, x10, x11, rfl, dw7⟩ := h
      refine ⟨by show 1 ≤ sizeLine; decide, fun l1 nl1 => ⟨by show 1 ≤ sizeLine; decide, fun t1 nt1 => ⟨by show 1 ≤ sizeLine; decide, fun t2 nt2 => fun d nd => ?_⟩⟩⟩
      have sa1 : Sm H7 (upd H7 l1 (.lst [.int 0])) := Sm.new nl1
      have hl1 : upd H7 l1 (.lst [.int 0]) l1 = some (.lst [.int 0]) := upd_same
      generalize upd H7 l1 (.lst [.int 0]) = Ha at sa1 hl1 nt1 nt2 nd ⊢
      have sa2 : Sm Ha (upd Ha t1 (.tup [.int 4])) := Sm.new nt1
      have ht1 : upd Ha t1 (.tup [.int 4]) t1 = some (.tup [.int 4]) := upd_same
      generalize upd Ha t1 (.tup [.int 4]) = Hb at sa2 ht1 nt2 nd ⊢
      have sa3 : Sm Hb (upd Hb t2 (.tup [.bl true])) := Sm.new nt2
      have ht2 : upd Hb t2 (.tup [.bl true]) t2 = some (.tup [.bl true]) := upd_same
      generalize upd Hb t2 (.tup [.bl true]) = Hc at sa3 ht2 nd ⊢
      have sa4 : Sm Hc (upd Hc d (.dK [])) := Sm.new nd
      have hd : upd Hc d (.dK []) d = some (.dK []) := upd_same
      generalize upd Hc d (.dK []) = Hd at sa4 hd ⊢
      refine ⟨by show 1 ≤ sizeLine; decide, fun t3 nt3 => ⟨t3, 1001, .int 0, rfl, rfl, SqT.of upd_same, by omega, by omega, fun t4 nt4 => ?_⟩⟩
      have sa5 : Sm Hd (upd (upd Hd t3 (.tup [.int 0])) t4 (.tup (List.replicate (1001 : Int).toNat [V.int 0]).flatten)) := (Sm.new nt3).add nt4
      have ht4 : (upd (upd Hd t3 (.tup [.int 0])) t4 (.tup (List.replicate (1001 : Int).toNat [V.int 0]).flatten)) t4 = some (.tup (List.replicate (1001 : Int).toNat [V.int 0]).flatten) := upd_same
      have hlong : 1000 < (List.replicate (1001 : Int).toNat [V.int 0]).flatten.length := by
        rw [PyProof.Rows.lm_len_rep_flat]
        show 1000 < (1001 : Int).toNat * 1
        omega
      generalize (List.replicate (1001 : Int).toNat [V.int 0]).flatten = long at sa5 ht4 hlong ⊢
      generalize (upd (upd Hd t3 (.tup [.int 0])) t4 (.tup long)) = He at sa5 ht4 ⊢
      refine ⟨by show 8 ≤ sizeLine; decide, fun lz nlz => ?_⟩
      have sa6 : Sm He (upd He lz (.lst [.non, .ref l1, .ref t1, .ref t2, .str "0", .ref d, .int 0, .ref t4])) := Sm.new nlz
      have hlz : upd He lz (.lst [.non, .ref l1, .ref t1, .ref t2, .str "0", .ref d, .int 0, .ref t4]) lz = some (.lst [.non, .ref l1, .ref t1, .ref t2, .str "0", .ref d, .int 0, .ref t4]) := upd_same
      generalize upd He lz (.lst [.non, .ref l1, .ref t1, .ref t2, .str "0", .ref d, .int 0, .ref t4]) = Hf at sa6 hlz ⊢
      have sb5 := sa5.trans sa6
      have sb4 := sa4.trans sb5
      have sb3 := sa3.trans sb4
      have sb2 := sa2.trans sb3
      have sb1 := sa1.trans sb2
      have dwf : Dw K sa ns a H6 Hf := dw7.sm sb1
      have bads : ∀ z ∈ ([.non, .ref l1, .ref t1, .ref t2, .str "0", .ref d, .int 0, .ref t4] : List V), NoRow Hf z := by
        intro z hz
        simp only [List.mem_cons, List.not_mem_nil, or_false] at hz
        rcases hz with rfl | rfl | rfl | rfl | rfl | rfl | rfl | rfl
        · exact .inl ⟨_, by decide, .non⟩
        · exact .inl ⟨_, by decide, .lst (sb2.at_ _ _ rfl hl1)⟩
        · exact .inr (.inr ⟨t1, _, rfl, sb3.tk _ _ ht1, .inl rfl⟩)
        · exact .inr (.inr ⟨t2, _, rfl, sb4.tk _ _ ht2, .inr rfl⟩)
        · exact .inl ⟨_, by decide, .str _⟩
        · exact .inl ⟨_, by decide, .dK (sb5.at_ _ _ rfl hd)⟩
        · exact .inl ⟨_, by decide, .int _⟩
        · exact .inr (.inl ⟨t4, _, rfl, sa6.tk _ _ ht4, hlong⟩)
      have hWf := hW6.mono (dwf.tk rw6)
      have hTf := dwf.sx.tbs hT6
      refine ⟨lz, rfl, ⟨_, SqL.of hlz⟩, for_list (xs := [.non, .ref l1, .ref t1, .ref t2, .str "0", .ref d, .int 0, .ref t4]) (fun i σ9 H9 => ∃ (x11 : Option V), σ9 = [some (.ref a), some wv, some (nI x), some (nI y), some (nI (shr W x y)), some (.ref p), some (.ref ra), x7, x8, x9, x10, x11, none] ∧ Sm Hf H9)
        ⟨_, rfl, Sm.refl _⟩ (fun i σ9 H9 _ h => by obtain ⟨_, _, h⟩ := h; exact SqL.of (h.at_ lz _ rfl hlz)) (fun i z σ9 H9 hz h => ?_) (fun σ9 H9 h => ?_)⟩
      · obtain ⟨x11, rfl, s9⟩ := h
        refine ⟨_, rfl, _, rfl, _, rfl, _, rfl, wv, z, W, x, y, rfl, hWf.mono s9.tk, ok, s9.tbs hTf, hx, hy, hne, al, .inr ⟨(bads z (mem_of_get hz)).sm s9, fun HA sA => ?_⟩⟩
        exact ⟨false, false, rfl, rfl, _, rfl, ifF rfl ⟨_, rfl, s9.trans sA⟩⟩
      · obtain ⟨x11, rfl, s9⟩ := h
        exact q _ (dw06.trans (dwf.sm s9))
end
end K2
namespace K2
open PySem PySem.Spec PyProof.Rows L2
/-- the class Unlike stands at C -/
structure UnlT (K : PySem.W.Frag) (mg : Str → Option Value) (C : Addr) : Prop where
  x : PySem.W.excIn K C [.type "ValueError", .type "Exception", .type "BaseException", .type "object"] "ValueError.__new__" = true
  g : mg "Unlike" = some (.ref C)
  k : PySem.W.keepIn K (.ref C) = true
  b : PySem.W.subIn K (.ref C) (.type "BaseException") = some true
  t : PySem.W.typeIn K (.ref C) = some (.type "type")
  e : PySem.W.exmOne K (.ref C) (.ref C) = some true
section
variable {Tl : List Addr} {C : Addr} {P : Program} {w : World} {K : PySem.W.Frag} {mg : Str → Option Value} {base : Heap}
def spUnX (Tl : List Addr) (C : Addr) : Sp := fun vs H _ E => ∃ (wv : V) (W : Web) (a b : Nat), vs = [wv, nI a, nI b] ∧ IsW H wv W ∧ Ok W ∧ Tbs Tl H ∧ a < W.length ∧ b < W.length ∧ a ≠ b ∧ ¬ Alike W a b ∧ ∀ H', Sm H H' → E (.ref C) none H'
theorem fx_need_alike {f : Addr} {fd : FuncData} (T : UnlT K mg C) (F : C8.Def K mg "need_alike" st_need_alike f fd) (G : Glob mg) (c_need_two : C8.Cal P w K mg base 7 "need_two" (spNeedTwo Tl) []) (c_lots_of : C8.Cal P w K mg base 1 "lots_of" spLots []) : FnOk P w K mg base (L2.CX P w) 8 f fd ["web", "one", "other"] (spUnX Tl C) := by
  obtain ⟨oc, od, dV, kV, doc, pm, an, cdv, ct, osl, rfl, lk, hcd⟩ := F.fn.ex
  refine fn_of (k := 7) lk hcd sc_need_alike (fun vs H Q E h => ?_) fun A outer s H vs Q E hr h => ?_
  · obtain ⟨_, _, _, _, rfl, _⟩ := h
    rfl
  · obtain ⟨wv, W, a, b, rfl, hW, ok, hT, ha, hb, hne, al, q⟩ := h
    refine ⟨_, (pss_cons (ps_expr (C8.pe_c c_need_two hr (by decide) (by rfl) (pa_cons (pv 0) (pa_cons (pv 1) (pa_cons (pv 2) pa_nil)))))
    (pss_cons (ps_set (i := 3) sc_need_alike.nd rfl (.inl rfl) (C8.pe_c c_lots_of hr (by decide) (by rfl) (pa_cons (pv 0) pa_nil)))
    (pss_one (ps_if (pt_cmpR op_ne (pe_ix ix_list (pv 3) (pv 1) (fun _ _ => rfl)) (pe_ix ix_list (pv 3) (pv 2) (fun _ _ => rfl)) (nomark _))
      (pss_one (ps_raise rfl (takes_of rfl rfl rfl rfl) (pmk_own0 PySem.F.excBase_ValueError T.x T.g T.k (raises_own T.b T.t) (by exact rfl)))) pss_nil)))), ?_⟩
    refine ⟨_, rfl, _, rfl, _, rfl, wv, W, a, b, rfl, hW, ok, hT, ha, hb, hne, fun H0 sm0 => ⟨_, rfl, wv, W, rfl, hW.mono sm0.tk, ok, fun H1 p l sm np hp hl hal => ?_⟩⟩
    have g : ∀ r, r < W.length → (l.map nI)[r]? = some (nI (l.getD r 0)) := fun r hr => by
      have h : r < l.length := by omega
      rw [List.getElem?_map, List.getD_eq_getElem?_getD, List.getElem?_eq_getElem h]; rfl
    exact ⟨_, rfl, _, rfl, r_ixL hp (g a ha) ⟨_, rfl, _, rfl, r_ixL hp (g b hb) ⟨rfl, _, rfl, ifT (ne_yes fun z => al ((hal a b ha hb).mp z)) (q H1 (sm0.trans sm))⟩⟩⟩
theorem fx_shrink {f fA : Addr} {fd fdA : FuncData} (F : C8.Def K mg "shrink" st_shrink f fd) (G : Glob mg) (FA : FnOk P w K mg base (L2.CX P w) 8 fA fdA ["web", "one", "other"] (spUnX Tl C)) (gA : mg "need_alike" = some (.ref fA)) (kA : PySem.W.keepIn K (.ref fA) = true) (bA : Binds K fdA ["web", "one", "other"] []) (c_near_rows : C8.Cal P w K mg base 3 "near_rows" spNear []) : FnOk P w K mg base (L2.CX P w) 9 f fd ["web", "one", "other"] (spUnX Tl C) := by
  obtain ⟨oc, od, dV, kV, doc, pm, an, cdv, ct, osl, rfl, lk, hcd⟩ := F.fn.ex
  refine fn_of (k := 8) lk hcd sc_shrink (fun vs H Q E h => ?_) fun A outer s H vs Q E hr h => ?_
  · obtain ⟨_, _, _, _, rfl, _⟩ := h
    rfl
  · obtain ⟨wv, W, a, b, rfl, hW, ok, hT, ha, hb, hne, al, q⟩ := h
    refine ⟨_, (pss_cons (ps_expr (pe_callS FA hr (by rfl) gA kA bA (fun σ => passAt (takes_of (E := E) rfl rfl rfl rfl) σ) (pa_cons (pv 0) (pa_cons (pv 1) (pa_cons (pv 2) pa_nil)))))
    (pss_one (ps_ret (pe_callB (id := "min") (cr_minK rfl) (by rfl) G.min (by decide +kernel) (pa_cons (C8.pe_c c_near_rows hr (by decide) (by rfl) (pa_cons (pv 0) (pa_cons (pv 1) (pa_cons (pv 2) pa_nil)))) pa_nil))))), ?_⟩
    exact ⟨_, rfl, _, rfl, _, rfl, wv, W, a, b, rfl, hW, ok, hT, ha, hb, hne, al, q⟩
end
end K2
/-! R9: t[::-1] of a tuple. -/
namespace HT
open PySem PyProof.Rows
section
open PySem.SeqAt
open PySem.AutoSeq1 (wpAny_loadPart')
open PySem.MeetsSeq PySem.MeetsSeq2 PySem.MeetsSeq3
variable {prog : Program} {w : World} {A : Around} {E : Value → Shared → Prop} {s : Shared}
theorem rev_places (n : Nat) : Builtin.Slice.slicePlaces ((n : Int) - 1) (-1) (-1) = n := by
  unfold Builtin.Slice.slicePlaces
  rw [if_neg (by decide)]
  by_cases h : ((n : Int) - 1) > -1
  · rw [if_pos h]
    have e : (n : Int) - 1 - -1 - 1 = (n : Int) - 1 := by omega
    rw [e]
    show (((n : Int) - 1) / 1 + 1).toNat = n
    rw [Int.ediv_one]
    omega
  · rw [if_neg h]
    omega
theorem sliceApplied_rev {sl : Addr} {vl vu vs : Value} {n : Nat} {Q : Int × Int × Nat → Shared → Prop} (hs : s.heap.IsSliceOf sl vl vu vs) (pl : IsPart vl none) (pu : IsPart vu none) (ps : IsPart vs (some (-1)))
    (h : Q ((n : Int) - 1, -1, n) s) : wpAny (model prog w) A (Builtin.Slice.sliceApplied (.ref sl) (pure (n : Int))) Q E s := by
  obtain ⟨os, hos, hcs, hds⟩ := id hs
  unfold Builtin.Slice.sliceApplied Builtin.Slice.sliceFields
  refine wpAny_bind (wpAny_bind (wpAny_field hos hds (x := vl) rfl (wpAny_bind (wpAny_field hos hds (x := vu) rfl (wpAny_bind (wpAny_field hos hds (x := vs) rfl (wpAny_pure ?_)))))))
  refine wpAny_bind (slicePart_ ps ?_)
  show wpAny _ _ (if ((-1 : Int) == 0) = true then _ else _) _ _ s
  rw [if_neg (by decide)]
  refine wpAny_bind (slicePart_ pl (wpAny_bind (slicePart_ pu (wpAny_bind (wpAny_pure ?_)))))
  show wpAny _ _ (pure (((n : Int) - 1), (-1 : Int), Builtin.Slice.slicePlaces ((n : Int) - 1) (-1) (-1))) _ _ s
  rw [rev_places]
  exact wpAny_pure h
theorem fm_map {α β : Type} {f : α → Option β} {g : α → β} : ∀ {l : List α}, (∀ k, k ∈ l → f k = some (g k)) → l.filterMap f = l.map g
  | [], _ => rfl
  | x :: l, h => by
    rw [List.filterMap_cons, h x List.mem_cons_self]
    show g x :: _ = _
    rw [fm_map fun k hk => h k (List.mem_cons_of_mem _ hk)]
    rfl
theorem pick_rev (xs : Array Value) : ((List.range xs.size).filterMap fun (k : Nat) => xs[((xs.size : Int) - 1 + (k : Int) * (-1)).toNat]?) = xs.toList.reverse := by
  apply List.ext_getElem?
  intro i
  have e : (fun (k : Nat) => xs[((xs.size : Int) - 1 + (k : Int) * (-1)).toNat]?) = fun (k : Nat) => xs.toList[((xs.size : Int) - 1 + (k : Int) * (-1)).toNat]? := by
    funext k
    exact Array.getElem?_toList.symm
  rw [e]
  generalize hL : xs.toList = L
  have hn : xs.size = L.length := by rw [← hL, Array.length_toList]
  rw [hn]
  have e2 : (List.range L.length).filterMap (fun (k : Nat) => L[((L.length : Int) - 1 + (k : Int) * (-1)).toNat]?) = (List.range L.length).map fun k => L.getD (L.length - 1 - k) .none := by
    refine fm_map fun k hk => ?_
    have hk2 := List.mem_range.mp hk
    have e3 : ((L.length : Int) - 1 + (k : Int) * (-1)).toNat = L.length - 1 - k := by omega
    show L[((L.length : Int) - 1 + (k : Int) * (-1)).toNat]? = some (L.getD (L.length - 1 - k) .none)
    rw [e3]
    rw [List.getD_eq_getElem?_getD, List.getElem?_eq_getElem (by omega)]
    rfl
  rw [e2]
  by_cases hi : i < L.length
  · rw [List.getElem?_map, List.getElem?_range hi, List.getElem?_reverse hi]
    show some (L.getD (L.length - 1 - i) .none) = _
    rw [List.getD_eq_getElem?_getD, List.getElem?_eq_getElem (by omega)]
    rfl
  · rw [List.getElem?_eq_none (by rw [List.length_map, List.length_range]; omega), List.getElem?_eq_none (by rw [List.length_reverse]; omega)]
theorem getItem_tuple_rev {t sl : Addr} {items : Array Value} {vl vu vs : Value} {Q : Value → Shared → Prop} (ht : IsTup s.heap t items) (hs : s.heap.IsSliceOf sl vl vu vs) (pl : IsPart vl none) (pu : IsPart vu none) (ps : IsPart vs (some (-1)))
    (h : Q (.ref s.heap.objs.size) { s with heap := s.heap.push { cls := .type "tuple", data := .seq items.toList.reverse.toArray } })
    (hsz : items.size ≤ sizeLine) : wpAny (model prog w) A (getItem (.ref t) (.ref sl)) Q E s := by
  have htake : sizeOk (.seq items.toList.reverse.toArray) := by
    show items.toList.reverse.toArray.size ≤ sizeLine
    rw [List.size_toArray, List.length_reverse, Array.length_toList]
    exact hsz
  obtain ⟨os, hos, hcs, hds⟩ := id hs
  have hTs : s.TypeIs (.ref sl) "slice" := ⟨os, hos, hcs⟩
  unfold getItem
  try with_reducible refine wpAny_holding ?_
  first | refine wpAny_bind (wpAny_pure ?_) | skip
  refine wpAny_bind (wpAny_sequenceKey ht.typeIs (by decide) ?_)
  refine wpAny_bind (wpAny_callSpecial?_slot (name := Str.ofString "__getitem__") ht.typeIs PyProof.Rows.slot_tuple_getitem
    (wpAny_call_entry PyProof.Rows.slot_tuple_getitem ht.typeIs entry_tuple_getitem ?_ (args_tuple_getitem _ _)))
  show wpAny _ _ (Builtin.Tuple.tupleItemsOf (.ref t) >>= _) _ _ s
  refine wpAny_bind (tupleItemsOf_ ht ?_)
  refine wpAny_bind (wpAny_typeOf hTs ?_)
  rw [if_pos (by decide)]
  refine wpAny_bind (sliceApplied_rev hs pl pu ps ?_)
  have hno : ¬ ((((items.size : Int) - 1) == 0 && (-1 : Int) == 1 && items.size == items.size) = true) := by
    intro q
    rw [Bool.and_eq_true, Bool.and_eq_true] at q
    exact absurd q.1.2 (by decide)
  show wpAny _ _ (if (((items.size : Int) - 1) == 0 && (-1 : Int) == 1 && items.size == items.size) = true then _ else _) _ _ s
  rw [if_neg hno, pick_rev]
  first
    | exact wpAny_bind (m := Builtin.Tuple.tupleExact _) (wpAny_newObj_type (wpAny_pure ⟨_, rfl, wpAny_pure h⟩) htake)
    | exact wpAny_bind (m := Builtin.Tuple.tupleExact _) (wpAny_newObj_type (wpAny_bind (wpAny_pure (wpAny_pure ⟨_, rfl, wpAny_pure h⟩))) htake)
    | exact wpAny_bind (wpAny_bind (m := Builtin.Tuple.tupleExact _) (wpAny_newObj_type (wpAny_pure (wpAny_pure ⟨_, rfl, wpAny_pure h⟩)) htake))
    | exact wpAny_bind (wpAny_bind (m := Builtin.Tuple.tupleExact _) (wpAny_newObj_type (wpAny_pure ⟨_, rfl, wpAny_pure h⟩) htake))
end
end HT
namespace K2
open PySem PySem.Spec PyProof.Rows L2
def tRevT (K : PySem.W.Frag) (te : TE) : TE := fun σ H Q => te σ H fun x H1 => ∃ a xs, x = .ref a ∧ SqT K H1 a xs ∧ ∀ p, H1 p = none → Q (.ref p) (upd H1 p (.tup xs.reverse))
section
variable {X : Cx}
theorem pe_revT {e : Expr} {te : TE} {k : Nat} {p1 p2 p3 pos : Pos} (he : PE X e te) : PE X (.Subscript e (.Slice none none (some (.UnaryOp .USub (.Constant (.int 1) k p1) p2)) p3) pos) (tRevT X.K te) := by
  refine ⟨fun pins s σ H Q I h => ?_⟩
  refine Subscript_ (thn (he.run pins s σ H _ I h) fun v s1 ⟨x, H1, I1, r1, q1⟩ => ?_)
  obtain ⟨a, xs, ex, hx, q⟩ := q1
  subst ex
  cases r1
  have hst : PO X (some (.UnaryOp .USub (.Constant (.int 1) k p1) p2)) (tPart (tUn (rU fun i => .int (-i)) (tC (.int 1)))) := po_some (pe_un un_neg pe_int)
  refine wpAny_Slice (thn (po_none.run pins s1 σ H1 (fun o H2 => o = none ∧ H2 = H1) I1 ⟨rfl, rfl⟩) fun vl s2 ⟨l, H2, I2, pl, el, e2⟩ => ?_)
  subst el e2
  refine thn (po_none.run pins s2 σ H2 (fun o H3 => o = none ∧ H3 = H2) I2 ⟨rfl, rfl⟩) fun vu s3 ⟨u, H3, I3, pu, eu, e3⟩ => ?_
  subst eu e3
  refine thn (hst.run pins s3 σ H3 (fun o H4 => o = some (-1) ∧ H4 = H3) I3 ⟨1, rfl, -1, rfl, rfl, rfl⟩) fun vs s4 ⟨o, H4, I4, ps, eo, e4⟩ => ?_
  subst eo e4
  have I5 : Inv X pins σ H4 { s4 with heap := s4.heap.push { cls := .type "slice", data := .fields #[vl, vu, vs] } } := I4.kept (t' := s4.toks) fun b ob q => Heap.get?_push_of_some _ q
  obtain ⟨its, r, ht, hz⟩ := I5.tuple hx
  have hlen := r.length
  show wpAny (model X.prog X.w) X.A (subscriptTail e (.Slice none none (some (.UnaryOp .USub (.Constant (.int 1) k p1) p2)) p3) (.ref a) (.ref s4.heap.objs.size)) (EP X pins σ Q) X.xe { s4 with heap := s4.heap.push { cls := .type "slice", data := .fields #[vl, vu, vs] } }
  refine tail_any (ops := [.ref a, .ref s4.heap.objs.size]) ht.typeIs (PyProof.Rows.slot_tuple_getitem.lookup) ?_ (by with_unfolding_all rfl)
  refine HT.getItem_tuple_rev ht (Heap.IsSliceOf.new _ vl vu vs) pl pu ps ?_ (by rw [List.size_toArray]; omega)
  refine ⟨.ref _, _, I5.laid (t' := s4.toks) (o := .tup xs.reverse) (fun b ob q => Heap.get?_push_of_some _ q) (Nat.le_refl _) ?_, rfl, q _ (I5.hok.fresh (Nat.le_refl _))⟩
  exact ⟨by rw [List.length_reverse]; exact hz, _, r.reverse, IsTup.new _ _⟩
end
end K2
namespace K2
open PySem PySem.Spec PyProof.Rows L2
abbrev st_shows_barring_lot : Stmt := topS 38
theorem sc_shows_barring_lot : FnScope ["web", "one", "other", "delay", "value", "pair", "here", "back", "there", "mate"] ["web", "one", "other", "delay", "value"] (C8.fnScope st_shows_barring_lot) := C8.fnScope_by (by decide +kernel)
-- slots: web=0 one=1 other=2 delay=3 value=4 pair=5 here=6 back=7 there=8 mate=9

abbrev st_law_bars : Stmt := topS 56
theorem sc_law_bars : FnScope ["_law_web_here", "_law_one", "_law_other", "_law_delay", "_law_lot", "_law_mine", "_law_its", "_law_door"] ["_law_web_here", "_law_one", "_law_other", "_law_delay", "_law_lot"] (C8.fnScope st_law_bars) := C8.fnScope_by (by decide +kernel)
-- slots: _law_web_here=0 _law_one=1 _law_other=2 _law_delay=3 _law_lot=4 _law_mine=5 _law_its=6 _law_door=7

/-- what a pair must keep -/
structure Pok (W : Web) (dl : Nat) (ps : List (Nat × Nat)) (p : Nat × Nat) : Prop where
  deg : deg W p.1 = deg W p.2
  far : dl < pd W p
  step : ∀ d t1 b1 t2 b2, door W p.1 d = some (t1, b1) → door W p.2 d = some (t2, b2) → b1 = b2 ∧ (t1, t2) ∈ ps
theorem bars_iff {W : Web} {a b dl : Nat} {ps : List (Nat × Nat)} : Bars W a b dl ps ↔ (a, b) ∈ ps ∧ ∀ p ∈ ps, Pok W dl ps p :=
  ⟨fun h => ⟨h.own, fun p hp => ⟨h.deg p hp, h.far p hp, fun d t1 b1 t2 b2 h1 h2 => h.step p d t1 b1 t2 b2 hp h1 h2⟩⟩, fun ⟨h1, h2⟩ => ⟨h1, fun p hp => (h2 p hp).deg, fun p hp => (h2 p hp).far, fun p d t1 b1 t2 b2 hp => (h2 p hp).step d t1 b1 t2 b2⟩⟩
theorem eq4 {a b : Nat} : decide (V.int (a : Int) = V.int (b : Int)) = decide (a = b) := nEq
section
variable {Tl : List Addr} {P : Program} {w : World} {K : PySem.W.Frag} {mg : Str → Option Value} {base : Heap}
/-- not a lot -/
def NoLot (W : Web) (H : Hp) (v : V) : Prop := (∃ n, n ≠ "tuple" ∧ n ≠ "NoneType" ∧ Kd H v n) ∨ (∃ a xs ps x, v = .ref a ∧ H a = some (.tup (xs ++ [x])) ∧ Paired (IsP H) xs ps ∧ (∀ p ∈ ps, p.1 < W.length ∧ p.2 < W.length) ∧ (x = .non ∨ IsP H x (0, W.length)))
theorem NoLot.sm {W : Web} {H H' : Hp} {v : V} (e : Sm H H') (h : NoLot W H v) : NoLot W H' v := by
  rcases h with ⟨n, hn, hn2, k⟩ | ⟨a, xs, ps, x, h1, h2, h3, h4, h5⟩
  · exact .inl ⟨n, hn, hn2, k.sm e⟩
  · exact .inr ⟨a, xs, ps, x, h1, e.tk _ _ h2, L2.Paired.mapP h3 fun _ _ z => z.mono e.tk, h4, h5.imp id fun z => z.mono e.tk⟩
def spSB (Tl : List Addr) : Sp := fun vs H Q _ => ∃ (wv v : V) (W : Web) (a b d : Nat), vs = [wv, nI a, nI b, nI d, v] ∧ IsW H wv W ∧ Ok W ∧ Tbs Tl H ∧ a < W.length ∧ b < W.length ∧ a ≠ b ∧ d ≤ 20 ∧
  ((v = .non ∧ ∀ H', Sm H H' → Q (.bl (decide (((ldl W a b : Nat) : Int) ≤ (d : Int)))) H') ∨
  (∃ ps, IsPs H v ps ∧ (∀ p ∈ ps, p.1 < W.length ∧ p.2 < W.length) ∧ ps.length ≤ 200 ∧ ∀ H' r, Sm H H' → (r = true → Asc ps ∧ Bars W a b d ps) → (Asc ps → Bars W a b d ps → r = true) → Q (.bl r) H') ∨
  (NoLot W H v ∧ ∀ H', Sm H H' → Q (.bl false) H'))
theorem cal_shows_barring_lot {f : Addr} {fd : FuncData} (F : C8.Def K mg "shows_barring_lot" st_shows_barring_lot f fd) (b : Binds K fd ["web", "one", "other", "delay", "value"] []) (G : Glob mg) (c_need_two : C8.Cal P w K mg base 7 "need_two" (spNeedTwo Tl) []) (c_need_delay : C8.Cal P w K mg base 2 "need_delay" spNeedDelay []) (c_least_delay_of : C8.Cal P w K mg base 4 "least_delay_of" spLdo []) (c_is_lot : C8.Cal P w K mg base 5 "is_lot" (spIsLot Tl) []) (c_far : C8.Cal P w K mg base 2 "far" spFar []) : C8.Cal P w K mg base 8 "shows_barring_lot" (spSB Tl) [] := by
  refine C8.cal0 (k := 7) F b .nil sc_shows_barring_lot (fun vs H Q E h => ?_) (fun cdv A outer s H vs Q E hr h => ?_)
  · obtain ⟨_, _, _, _, _, _, rfl, _⟩ := h
    rfl
  · obtain ⟨wv, v, W, a, b, d, rfl, hW, ok, hT, ha, hb, hne, hd, h⟩ := h
    refine ⟨_, (pss_cons (ps_expr (C8.pe_c c_need_two hr (by decide) (by rfl) (pa_cons (pv 0) (pa_cons (pv 1) (pa_cons (pv 2) pa_nil)))))
    (pss_cons (ps_expr (C8.pe_c c_need_delay hr (by decide) (by rfl) (pa_cons (pv 3) pa_nil)))
    (pss_cons (ps_if (pt_cmpR op_isN (pv 4) pe_non (nomark _)) 
      (pss_one (ps_ret (pe_cmpR op_le (C8.pe_c c_least_delay_of hr (by decide) (by rfl) (pa_cons (pv 0) (pa_cons (pv 1) (pa_cons (pv 2) pa_nil)))) (pv 3) (nomark _)))) pss_nil)
    (pss_cons (ps_if (PW.pt (pw_or (pt_not (pt_val (C8.pe_c c_is_lot hr (by decide) (by rfl) (pa_cons (pv 0) (pa_cons (pv 4) pa_nil))))) (pw_or1 (pt_cmpR (op_notInTD (hu65 hr)) (pe_tup (pa_cons (pv 1) (pa_cons (pv 2) pa_nil))) (pv 4) (by rfl))))) 
      (pss_one (ps_ret pe_bl)) pss_nil)
    (pss_cons (ps_for PassesOwn.never rfl (pi_tup (pv 4)) (pg_name (i := 5) sc_shows_barring_lot.nd rfl (.inl rfl)) 
      (pss_cons (ps_if (PW.pt (pw_or (pt_cmpR op_le (C8.pe_c c_far hr (by decide) (by rfl) (pa_cons (pv 0) (pa_cons (pv 5) pa_nil))) (pv 3) (nomark _)) (pw_or1 (pt_cmpR op_ne (pe_callB (id := "len") call_len_seq (by rfl) G.len (by decide +kernel) (pa_cons (pe_ix ix_tup (pv 0) (pe_ix ix_tup (pv 5) pe_int (fun _ _ => rfl)) (fun _ _ => rfl)) pa_nil)) (pe_callB (id := "len") call_len_seq (by rfl) G.len (by decide +kernel) (pa_cons (pe_ix ix_tup (pv 0) (pe_ix ix_tup (pv 5) pe_int (fun _ _ => rfl)) (fun _ _ => rfl)) pa_nil)) (nomark _))))) 
        (pss_one (ps_ret pe_bl)) pss_nil)
      (pss_one (ps_for PassesOwn.never rfl (RZ.pi_zipA (by rfl) G.zip (pa_cons (pe_ix ix_tup (pv 0) (pe_ix ix_tup (pv 5) pe_int (fun _ _ => rfl)) (fun _ _ => rfl)) (pa_cons (pe_ix ix_tup (pv 0) (pe_ix ix_tup (pv 5) pe_int (fun _ _ => rfl)) (fun _ _ => rfl)) pa_nil))) (pg_tup rfl (pgs_cons (pg_tup rfl (pgs_cons (pg_name (i := 6) sc_shows_barring_lot.nd rfl (.inl rfl)) (pgs_cons (pg_name (i := 7) sc_shows_barring_lot.nd rfl (.inl rfl)) pgs_nil))) (pgs_cons (pg_tup rfl (pgs_cons (pg_name (i := 8) sc_shows_barring_lot.nd rfl (.inl rfl)) (pgs_cons (pg_name (i := 9) sc_shows_barring_lot.nd rfl (.inl rfl)) pgs_nil))) pgs_nil))) 
        (pss_one (ps_if (PW.pt (pw_or (pt_cmpR op_ne (pv 7) (pv 9) (nomark _)) (pw_or1 (pt_cmpR (op_notInTD (hu65 hr)) (pe_tup (pa_cons (pv 6) (pa_cons (pv 8) pa_nil))) (pv 4) (by rfl))))) 
          (pss_one (ps_ret pe_bl)) pss_nil))))))
    (pss_one (ps_ret pe_bl))))))), ?_⟩
    refine ⟨_, rfl, _, rfl, _, rfl, wv, W, a, b, rfl, hW, ok, hT, ha, hb, hne, fun H1 sm => ⟨_, rfl, d, rfl, hd, ?_⟩⟩
    rcases h with ⟨rfl, q⟩ | h
    · refine ⟨_, rfl, rfl, _, rfl, ifT rfl ⟨_, rfl, _, rfl, _, rfl, wv, W, a, b, rfl, hW.mono sm.tk, ok, ha, hb, fun H2 s2 => ⟨_, rfl, _, _, rfl, rfl, q H2 (sm.trans s2)⟩⟩⟩
    have nn : v ≠ .non := by
      rcases h with ⟨ps, ⟨_, _, rfl, _⟩, _⟩ | ⟨⟨n, _, hn, k⟩ | ⟨_, _, _, _, rfl, _⟩, _⟩
      · intro z; cases z
      · intro z
        subst z
        cases k
        exact hn rfl
      · intro z; cases z
    refine ⟨_, rfl, rfl, _, rfl, ifF (decide_eq_false nn) ?_⟩
    refine ⟨_, rfl, _, rfl, wv, v, W, rfl, hW.mono sm.tk, ok, sm.tbs hT, ?_⟩
    rcases h with ⟨ps, hps, hlt, hl2, q⟩ | ⟨hno, q⟩
    · refine .inr (.inl ⟨ps, hps.mono sm.tk, hlt, hl2, fun H2 bo s2 b1 b2 => ⟨bo, rfl, ?_⟩⟩)
      have s12 := sm.trans s2
      by_cases has : Asc ps
      · obtain rfl : bo = true := b2 has
        refine iteF ⟨_, rfl, _, rfl, by show 2 ≤ sizeLine; decide, fun tp ntp => ?_⟩
        have s3 : Sm H (upd H2 tp (.tup [nI a, nI b])) := s12.add ntp
        refine ⟨_, rfl, _, _, dp_pair (p := (a, b)) ⟨tp, rfl, upd_same⟩, dp_isps (hps.mono s3.tk), sh_pair _, sh_pairsT _, ?_⟩
        generalize upd H2 tp (.tup [nI a, nI b]) = H3 at s3 ⊢
        by_cases hown : (a, b) ∈ ps
        · rw [EqD.pair.yes hown]
          refine ⟨_, rfl, iteF ?_⟩
          obtain ⟨va, vvs, rfl, hva, pps⟩ := id hps
          have hvl := pps.length
          -- for pair in value
          refine ⟨_, rfl, va, rfl, ⟨_, SqT.of (s3.tk _ _ hva)⟩, for_tup (xs := vvs) (fun i σ4 H4 => ∃ (y5 y6 y7 y8 y9 : Option V), σ4 = [some wv, some (nI a), some (nI b), some (nI d), some (.ref va), y5, y6, y7, y8, y9] ∧ (∀ (j : Nat) p, j < i → ps[j]? = some p → Pok W d ps p) ∧ Sm H H4)
            ⟨_, _, _, _, _, rfl, fun j p h => absurd h (by omega), s3⟩ (fun i σ4 H4 _ h => by obtain ⟨_, _, _, _, _, _, _, h⟩ := h; exact SqT.of (h.tk _ _ hva)) (fun i x σ4 H4 hx h => ?_) (fun σ4 H4 h => ?_)⟩
          · obtain ⟨y5, y6, y7, y8, y9, rfl, hpok, s4⟩ := h
            obtain ⟨⟨u1, u2⟩, eu, hu⟩ := pget1 pps hx
            have hum := mem_of_get eu
            obtain ⟨hu1, hu2⟩ := hlt _ hum
            obtain ⟨pa, rfl, hpa⟩ := id hu
            refine ⟨_, rfl, _, rfl, wv, .ref pa, W, u1, u2, rfl, hW.mono s4.tk, ok, hu.mono s4.tk, hu1, hu2, fun H5 s5 => ?_⟩
            have s45 := s4.trans s5
            have bad : ¬ Pok W d ps (u1, u2) → ∀ H', Sm H H' → Q (.bl false) H' := fun hn H' s' => q H' false s' (fun z => nomatch z) fun _ hb => absurd ((bars_iff.mp hb).2 _ hum) hn
            refine ⟨_, rfl, _, _, rfl, rfl, _, rfl, ifB (fun hle => ?_) (fun hle => ?_)⟩
            · refine iteT (bad (fun z => ?_) _ s45)
              have h1 := of_decide_eq_true hle
              have h2 : d < dist W u1 u2 := z.far
              omega
            · have hfar : d < dist W u1 u2 := by have h1 := of_decide_eq_false hle; omega
              have hW5 := hW.mono s45.tk
              have hpa5 := s45.tk _ _ hpa
              refine ⟨_, rfl, _, rfl, pa, _, 0, _, rfl, rfl, SqT.of hpa5, rfl, r_web hW5 hu1 fun ds1 dv1 e1 hds1 => ?_⟩
              obtain ⟨da1, dvs1, rfl, hda1, pds1⟩ := hds1
              refine ⟨da1, dvs1, rfl, .inr (SqT.of hda1), _, rfl, _, rfl, pa, _, 1, _, rfl, rfl, SqT.of hpa5, rfl, r_web hW5 hu2 fun ds2 dv2 e2 hds2 => ?_⟩
              obtain ⟨da2, dvs2, rfl, hda2, pds2⟩ := hds2
              have hl1 := pds1.length
              have hl2' := pds2.length
              refine ⟨da2, dvs2, rfl, .inr (SqT.of hda2), rfl, _, rfl, ?_⟩
              by_cases hdg : dvs1.length = dvs2.length
              · refine ifF (ne_no hdg) ?_
                -- for (here, back), (there, mate) in zip(..)
                refine ⟨_, rfl, _, rfl, pa, _, 0, _, rfl, rfl, SqT.of hpa5, rfl, r_web hW5 hu1 fun ds3 dv3 e3 hds3 => ?_⟩
                rw [e1] at e3
                obtain rfl := Option.some.inj e3
                obtain ⟨da3, dvs3, rfl, hda3, pds3⟩ := hds3
                refine ⟨_, rfl, _, rfl, pa, _, 1, _, rfl, rfl, SqT.of hpa5, rfl, r_web hW5 hu2 fun ds4 dv4 e4 hds4 => ?_⟩
                rw [e2] at e4
                obtain rfl := Option.some.inj e4
                obtain ⟨da4, dvs4, rfl, hda4, pds4⟩ := hds4
                have hl3 := pds3.length
                have hl4 := pds4.length
                have st : ∀ H', Sm H5 H' → SqT K H' da3 dvs3 ∧ SqT K H' da4 dvs4 := fun H' s => ⟨SqT.of (s.tk _ _ hda3), SqT.of (s.tk _ _ hda4)⟩
                refine ⟨da3, da4, dvs3, dvs4, rfl, .inr ⟨SqT.of hda3, SqT.of hda4, for_it (walk_zT (xs := dvs3) (ys := dvs4) rfl) (fun j σ6 H6 => ∃ (z6 z7 z8 z9 : Option V), σ6 = [some wv, some (nI a), some (nI b), some (nI d), some (.ref va), some (.ref pa), z6, z7, z8, z9] ∧ (∀ d' t1 b1 t2 b2, d' < j → door W u1 d' = some (t1, b1) → door W u2 d' = some (t2, b2) → b1 = b2 ∧ (t1, t2) ∈ ps) ∧ Sm H5 H6)
                  ⟨_, _, _, _, rfl, fun d' t1 b1 t2 b2 h => absurd h (by omega), Sm.refl H5⟩ (fun j σ6 H6 _ h => by obtain ⟨_, _, _, _, _, _, h⟩ := h; exact st H6 h) (fun j x σ6 H6 H' hj h hY => ?_) (fun σ6 H6 h => ?_)⟩⟩
                · obtain ⟨z6, z7, z8, z9, rfl, hst, s6⟩ := h
                  obtain ⟨T, x1, x2, rfl, nT, rfl, f1, f2⟩ := hY
                  obtain ⟨⟨t1, b1⟩, g1, hp1⟩ := pget1 pds3 f1
                  obtain ⟨⟨t2, b2⟩, g2, hp2⟩ := pget1 pds4 f2
                  have s7 : Sm H5 (upd H6 T (.tup [x1, x2])) := s6.add nT
                  have hT7 : upd H6 T (.tup [x1, x2]) T = some (.tup [x1, x2]) := upd_same
                  generalize upd H6 T (.tup [x1, x2]) = H7 at s7 hT7 ⊢
                  have s57 := s45.trans s7
                  have d1 : door W u1 j = some (t1, b1) := by rw [door_at e1]; exact g1
                  have d2 : door W u2 j = some (t2, b2) := by rw [door_at e2]; exact g2
                  have bad2 : ¬ (b1 = b2 ∧ (t1, t2) ∈ ps) → ¬ Pok W d ps (u1, u2) := fun hn z => hn (z.step j t1 b1 t2 b2 d1 d2)
                  refine ⟨T, _, rfl, SqT.of hT7, rfl, _, _, rfl, r_un2 (hp1.mono s7.tk) ⟨_, _, rfl, r_un2 (hp2.mono s7.tk) ⟨rfl, ?_⟩⟩⟩
                  by_cases hbb : b1 = b2
                  · refine ⟨_, rfl, _, rfl, rfl, _, rfl, ifF (ne_no hbb) ⟨_, rfl, _, rfl, by show 2 ≤ sizeLine; decide, fun p np => ?_⟩⟩
                    have s8 : Sm H7 (upd H7 p (.tup [nI t1, nI t2])) := Sm.new np
                    refine ⟨_, rfl, _, _, dp_pair (p := (t1, t2)) ⟨p, rfl, upd_same⟩, dp_isps (hps.mono (s57.trans s8).tk), sh_pair _, sh_pairsT _, ?_⟩
                    generalize upd H7 p (.tup [nI t1, nI t2]) = H8 at s8 ⊢
                    by_cases hin : (t1, t2) ∈ ps
                    · rw [EqD.pair.yes hin]
                      refine ⟨_, rfl, iteF ⟨_, _, _, _, rfl, fun d' t1' b1' t2' b2' h k1 k2 => ?_, s7.trans s8⟩⟩
                      by_cases c : d' = j
                      · subst c
                        rw [d1] at k1
                        rw [d2] at k2
                        cases k1
                        cases k2
                        exact ⟨hbb, hin⟩
                      · exact hst d' t1' b1' t2' b2' (by omega) k1 k2
                    · rw [EqD.pair.no hin]
                      exact ⟨_, rfl, iteT (bad (bad2 fun z => hin z.2) _ (s57.trans s8))⟩
                  · exact ⟨_, rfl, _, rfl, rfl, _, rfl, ifT (ne_yes hbb) (iteT (bad (bad2 fun z => hbb z.1) _ s57))⟩
                · obtain ⟨z6, z7, z8, z9, rfl, hst, s6⟩ := h
                  refine ⟨_, _, _, _, _, rfl, fun j p hj ep => ?_, s45.trans s6⟩
                  by_cases c : j = i
                  · subst c
                    rw [eu] at ep
                    obtain rfl := Option.some.inj ep
                    refine ⟨by rw [deg_at e1, deg_at e2]; omega, hfar, fun d' t1 b1 t2 b2 k1 k2 => hst d' t1 b1 t2 b2 ?_ k1 k2⟩
                    have z1 := (door_lt k1).2
                    have z2 := (door_lt k2).2
                    rw [deg_at e1] at z1
                    rw [deg_at e2] at z2
                    omega
                  · exact hpok j p (by omega) ep
              · refine ifT (ne_yes hdg) (bad (fun z => hdg ?_) _ s45)
                have h1 := z.deg
                simp only [deg_at e1, deg_at e2] at h1
                omega
          · obtain ⟨y5, y6, y7, y8, y9, rfl, hpok, s4⟩ := h
            refine q H4 true s4 (fun _ => ⟨has, bars_iff.mpr ⟨hown, fun p hp => ?_⟩⟩) fun _ _ => rfl
            obtain ⟨j, hj, e⟩ := get_of_mem hp
            exact hpok j p (by omega) e
        · rw [EqD.pair.no hown]
          exact ⟨_, rfl, iteT (q H3 false s3 (fun z => nomatch z) fun _ hb => absurd hb.own hown)⟩
      · have hbo : bo = false := by
          cases bo with
          | false => rfl
          | true => exact absurd (b1 rfl) has
        subst hbo
        exact iteT (q H2 false s12 (fun z => nomatch z) fun z _ => absurd z has)
    · rcases hno.sm sm with ⟨n, hn, _, k⟩ | ⟨a', xs, ps, x, h1, h2, h3, h4, h5⟩
      · exact .inl ⟨n, hn, k, false, rfl, iteT (q _ sm)⟩
      · exact .inr (.inr ⟨a', xs, ps, x, h1, h2, h3, h4, h5, fun H2 s2 => ⟨false, rfl, iteT (q _ (sm.trans s2))⟩⟩)
def spLBars : Sp := fun vs H Q _ => ∃ (wv v : V) (W : Web) (a b d : Nat) (ps : List (Nat × Nat)), vs = [wv, nI a, nI b, nI d, v] ∧ IsW H wv W ∧ Ok W ∧ IsPs H v ps ∧ (∀ p ∈ ps, p.1 < W.length ∧ p.2 < W.length) ∧ ∀ H' r, Sm H H' → (r = true → Bars W a b d ps) → (Bars W a b d ps → r = true) → Q (.bl r) H'
theorem cal_law_bars {f : Addr} {fd : FuncData} (F : C8.Def K mg "_law_bars" st_law_bars f fd) (b : Binds K fd ["_law_web_here", "_law_one", "_law_other", "_law_delay", "_law_lot"] []) (G : Glob mg) (c_law_far : C8.Cal P w K mg base 1 "_law_far" spLFar []) : C8.Cal P w K mg base 2 "_law_bars" spLBars [] := by
  refine C8.cal0 (k := 1) F b .nil sc_law_bars (fun vs H Q E h => ?_) (fun cdv A outer s H vs Q E hr h => ?_)
  · obtain ⟨_, _, _, _, _, _, _, rfl, _⟩ := h
    rfl
  · obtain ⟨wv, v, W, a, b, d, ps, rfl, hW, ok, hps, hlt, q⟩ := h
    refine ⟨_, (pss_cons (ps_if (pt_cmpR (op_notInTD (hu65 hr)) (pe_tup (pa_cons (pv 1) (pa_cons (pv 2) pa_nil))) (pv 4) (by rfl)) 
      (pss_one (ps_ret pe_bl)) pss_nil)
    (pss_cons (ps_for PassesOwn.never rfl (pi_tup (pv 4)) (pg_tup rfl (pgs_cons (pg_name (i := 5) sc_law_bars.nd rfl (.inl rfl)) (pgs_cons (pg_name (i := 6) sc_law_bars.nd rfl (.inl rfl)) pgs_nil))) 
      (pss_cons (ps_if (PW.pt (pw_or (pt_cmpR op_ne (pe_callB (id := "len") call_len_seq (by rfl) G.len (by decide +kernel) (pa_cons (pe_ix ix_tup (pv 0) (pv 5) (fun _ _ => rfl)) pa_nil)) (pe_callB (id := "len") call_len_seq (by rfl) G.len (by decide +kernel) (pa_cons (pe_ix ix_tup (pv 0) (pv 6) (fun _ _ => rfl)) pa_nil)) (nomark _)) (pw_or1 (pt_cmpR op_le (C8.pe_c c_law_far hr (by decide) (by rfl) (pa_cons (pv 0) (pa_cons (pv 5) (pa_cons (pv 6) pa_nil)))) (pv 3) (nomark _))))) 
        (pss_one (ps_ret pe_bl)) pss_nil)
      (pss_one (ps_for PassesOwn.never rfl (pi_range1 (by rfl) G.range (pa_cons (pe_callB (id := "len") call_len_seq (by rfl) G.len (by decide +kernel) (pa_cons (pe_ix ix_tup (pv 0) (pv 5) (fun _ _ => rfl)) pa_nil)) pa_nil)) (pg_name (i := 7) sc_law_bars.nd rfl (.inl rfl)) 
        (pss_one (ps_if (PW.pt (pw_or (pt_cmpR op_ne (pe_ix ix_tup (pe_ix ix_tup (pe_ix ix_tup (pv 0) (pv 5) (fun _ _ => rfl)) (pv 7) (fun _ _ => rfl)) pe_int (fun _ _ => rfl)) (pe_ix ix_tup (pe_ix ix_tup (pe_ix ix_tup (pv 0) (pv 6) (fun _ _ => rfl)) (pv 7) (fun _ _ => rfl)) pe_int (fun _ _ => rfl)) (nomark _)) (pw_or1 (pt_cmpR (op_notInTD (hu65 hr)) (pe_tup (pa_cons (pe_ix ix_tup (pe_ix ix_tup (pe_ix ix_tup (pv 0) (pv 5) (fun _ _ => rfl)) (pv 7) (fun _ _ => rfl)) pe_int (fun _ _ => rfl)) (pa_cons (pe_ix ix_tup (pe_ix ix_tup (pe_ix ix_tup (pv 0) (pv 6) (fun _ _ => rfl)) (pv 7) (fun _ _ => rfl)) pe_int (fun _ _ => rfl)) pa_nil))) (pv 4) (by rfl))))) 
          (pss_one (ps_ret pe_bl)) pss_nil))))))
    (pss_one (ps_ret pe_bl)))), ?_⟩
    refine ⟨_, rfl, _, rfl, by show 2 ≤ sizeLine; decide, fun tp ntp => ?_⟩
    have s3 : Sm H (upd H tp (.tup [nI a, nI b])) := Sm.new ntp
    refine ⟨_, rfl, _, _, dp_pair (p := (a, b)) ⟨tp, rfl, upd_same⟩, dp_isps (hps.mono s3.tk), sh_pair _, sh_pairsT _, ?_⟩
    generalize upd H tp (.tup [nI a, nI b]) = H3 at s3 ⊢
    by_cases hown : (a, b) ∈ ps
    · rw [EqD.pair.yes hown]
      refine ⟨_, rfl, iteF ?_⟩
      obtain ⟨va, vvs, rfl, hva, pps⟩ := id hps
      have hvl := pps.length
      refine ⟨_, rfl, va, rfl, ⟨_, SqT.of (s3.tk _ _ hva)⟩, for_tup (xs := vvs) (fun i σ4 H4 => ∃ (y5 y6 y7 : Option V), σ4 = [some wv, some (nI a), some (nI b), some (nI d), some (.ref va), y5, y6, y7] ∧ (∀ (j : Nat) p, j < i → ps[j]? = some p → Pok W d ps p) ∧ Sm H H4)
        ⟨_, _, _, rfl, fun j p h => absurd h (by omega), s3⟩ (fun i σ4 H4 _ h => by obtain ⟨_, _, _, _, _, h⟩ := h; exact SqT.of (h.tk _ _ hva)) (fun i x σ4 H4 hx h => ?_) (fun σ4 H4 h => ?_)⟩
      · obtain ⟨y5, y6, y7, rfl, hpok, s4⟩ := h
        obtain ⟨⟨u1, u2⟩, eu, hu⟩ := pget1 pps hx
        have hum := mem_of_get eu
        obtain ⟨hu1, hu2⟩ := hlt _ hum
        have bad : ¬ Pok W d ps (u1, u2) → ∀ H', Sm H H' → Q (.bl false) H' := fun hn H' s' => q H' false s' (fun z => nomatch z) fun hb => absurd ((bars_iff.mp hb).2 _ hum) hn
        refine r_un2 (hu.mono s4.tk) ?_
        have hW4 := hW.mono s4.tk
        refine ⟨_, rfl, _, rfl, r_web hW4 hu1 fun ds1 dv1 e1 hds1 => ?_⟩
        obtain ⟨da1, dvs1, rfl, hda1, pds1⟩ := hds1
        refine ⟨da1, dvs1, rfl, .inr (SqT.of hda1), _, rfl, _, rfl, r_web hW4 hu2 fun ds2 dv2 e2 hds2 => ?_⟩
        obtain ⟨da2, dvs2, rfl, hda2, pds2⟩ := hds2
        have hl1 := pds1.length
        have hl2 := pds2.length
        have hd4 : ds1.length ≤ 4 := (ok.deg _ _ e1).2
        refine ⟨da2, dvs2, rfl, .inr (SqT.of hda2), rfl, _, rfl, ?_⟩
        by_cases hdg : dvs1.length = dvs2.length
        · refine ifF (ne_no hdg) ⟨_, rfl, _, rfl, _, rfl, wv, W, u1, u2, rfl, hW4, ok, hu1, hu2, fun H5 s5 => ?_⟩
          have s45 := s4.trans s5
          have hW5 := hW.mono s45.tk
          refine ⟨_, rfl, _, _, rfl, rfl, _, rfl, ifB (fun hle => ?_) (fun hle => ?_)⟩
          · refine bad (fun z => ?_) _ s45
            have h1 := of_decide_eq_true hle
            have h2 : d < dist W u1 u2 := z.far
            omega
          · have hfar : d < dist W u1 u2 := by have h1 := of_decide_eq_false hle; omega
            refine ⟨_, rfl, _, rfl, r_web hW5 hu1 fun ds3 dv3 e3 hds3 => ?_⟩
            rw [e1] at e3
            obtain rfl := Option.some.inj e3
            obtain ⟨da3, dvs3, rfl, hda3, pds3⟩ := hds3
            have hl3 := pds3.length
            refine ⟨da3, dvs3, rfl, .inr (SqT.of hda3), _, rfl, by show -(2 ^ 62) ≤ ((dvs3.length : Nat) : Int); omega, by show ((dvs3.length : Nat) : Int) < 2 ^ 62; omega, for_rg (n := dvs3.length) (fun j σ6 H6 => ∃ (z7 : Option V), σ6 = [some wv, some (nI a), some (nI b), some (nI d), some (.ref va), some (nI u1), some (nI u2), z7] ∧ (∀ d' t1 b1 t2 b2, d' < j → door W u1 d' = some (t1, b1) → door W u2 d' = some (t2, b2) → b1 = b2 ∧ (t1, t2) ∈ ps) ∧ Sm H5 H6)
              ⟨_, rfl, fun d' t1 b1 t2 b2 h => absurd h (by omega), Sm.refl H5⟩ (fun j σ6 H6 hj h => ?_) (fun σ6 H6 h => ?_)⟩
            · obtain ⟨z7, rfl, hst, s6⟩ := h
              have s56 := s45.trans s6
              have hW6 := hW.mono s56.tk
              obtain ⟨⟨t1, b1⟩, g1⟩ := get_of_lt (l := ds1) (i := j) (by omega)
              obtain ⟨⟨t2, b2⟩, g2⟩ := get_of_lt (l := ds2) (i := j) (by omega)
              have d1 : door W u1 j = some (t1, b1) := by rw [door_at e1]; exact g1
              have d2 : door W u2 j = some (t2, b2) := by rw [door_at e2]; exact g2
              have bad2 : ¬ (b1 = b2 ∧ (t1, t2) ∈ ps) → ¬ Pok W d ps (u1, u2) := fun hn z => hn (z.step j t1 b1 t2 b2 d1 d2)
              refine ⟨_, rfl, _, rfl, r_web hW6 hu1 fun ds5 dv5 e5 hds5 => ⟨_, rfl, r_ps hds5 (by rw [← door_at e5]; exact d1) fun pv1 hp1 => ?_⟩⟩
              obtain ⟨qa, rfl, hqa⟩ := hp1
              refine ⟨qa, _, 1, _, rfl, rfl, SqT.of hqa, rfl, _, rfl, _, rfl, r_web hW6 hu2 fun ds6 dv6 e6 hds6 => ⟨_, rfl, r_ps hds6 (by rw [← door_at e6]; exact d2) fun pv2 hp2 => ?_⟩⟩
              obtain ⟨qb, rfl, hqb⟩ := hp2
              refine ⟨qb, _, 1, _, rfl, rfl, SqT.of hqb, rfl, rfl, _, rfl, ?_⟩
              by_cases hbb : b1 = b2
              · refine ifF (ne_no hbb) ?_
                refine ⟨_, rfl, _, rfl, r_web hW6 hu1 fun ds7 dv7 e7 hds7 => ⟨_, rfl, r_ps hds7 (by rw [← door_at e7]; exact d1) fun pv3 hp3 => ?_⟩⟩
                obtain ⟨qc, rfl, hqc⟩ := hp3
                refine ⟨qc, _, 0, _, rfl, rfl, SqT.of hqc, rfl, _, rfl, _, rfl, r_web hW6 hu2 fun ds8 dv8 e8 hds8 => ⟨_, rfl, r_ps hds8 (by rw [← door_at e8]; exact d2) fun pv4 hp4 => ?_⟩⟩
                obtain ⟨qd, rfl, hqd⟩ := hp4
                refine ⟨qd, _, 0, _, rfl, rfl, SqT.of hqd, rfl, by show 2 ≤ sizeLine; decide, fun p np => ?_⟩
                have s8 : Sm H6 (upd H6 p (.tup [nI t1, nI t2])) := Sm.new np
                refine ⟨_, rfl, _, _, dp_pair (p := (t1, t2)) ⟨p, rfl, upd_same⟩, dp_isps (hps.mono (s56.trans s8).tk), sh_pair _, sh_pairsT _, ?_⟩
                generalize upd H6 p (.tup [nI t1, nI t2]) = H8 at s8 ⊢
                by_cases hin : (t1, t2) ∈ ps
                · rw [EqD.pair.yes hin]
                  refine ⟨_, rfl, iteF ⟨_, rfl, fun d' t1' b1' t2' b2' h k1 k2 => ?_, s6.trans s8⟩⟩
                  by_cases c : d' = j
                  · subst c
                    rw [d1] at k1
                    rw [d2] at k2
                    cases k1
                    cases k2
                    exact ⟨hbb, hin⟩
                  · exact hst d' t1' b1' t2' b2' (by omega) k1 k2
                · rw [EqD.pair.no hin]
                  exact ⟨_, rfl, iteT (bad (bad2 fun z => hin z.2) _ (s56.trans s8))⟩
              · exact ifT (ne_yes hbb) (bad (bad2 fun z => hbb z.1) _ s56)
            · obtain ⟨z7, rfl, hst, s6⟩ := h
              refine ⟨_, _, _, rfl, fun j p hj ep => ?_, s45.trans s6⟩
              by_cases c : j = i
              · subst c
                rw [eu] at ep
                obtain rfl := Option.some.inj ep
                refine ⟨by rw [deg_at e1, deg_at e2]; omega, hfar, fun d' t1 b1 t2 b2 k1 k2 => hst d' t1 b1 t2 b2 ?_ k1 k2⟩
                have z1 := (door_lt k1).2
                rw [deg_at e1] at z1
                omega
              · exact hpok j p (by omega) ep
        · refine ifT (ne_yes hdg) (iteT (bad (fun z => hdg ?_) _ s4))
          have h1 := z.deg
          simp only [deg_at e1, deg_at e2] at h1
          omega
      · obtain ⟨y5, y6, y7, rfl, hpok, s4⟩ := h
        refine q H4 true s4 (fun _ => bars_iff.mpr ⟨hown, fun p hp => ?_⟩) fun _ => rfl
        obtain ⟨j, hj, e⟩ := get_of_mem hp
        exact hpok j p (by omega) e
    · rw [EqD.pair.no hown]
      exact ⟨_, rfl, iteT (q H3 false s3 (fun z => nomatch z) fun hb => absurd hb.own hown)⟩
end
end K2
namespace K2
open PySem PySem.Spec PyProof.Rows L2
abbrev st_law_unlike : Stmt := topS 49
theorem sc_law_unlike : FnScope ["_law_web_here", "_law_many", "_law_found", "_law_turn", "_law_one", "_law_other", "_law_unlike_here", "_law_mine", "_law_its"] ["_law_web_here"] (C8.fnScope st_law_unlike) := C8.fnScope_by (by decide +kernel)
-- slots: _law_web_here=0 _law_many=1 _law_found=2 _law_turn=3 _law_one=4 _law_other=5 _law_unlike_here=6 _law_mine=7 _law_its=8

def encU (F : List (Nat × Nat)) : List (List Key × V) := F.map fun p => (kP p, .bl true)
theorem encU_yes {F : List (Nat × Nat)} {x : Nat × Nat} (h : x ∈ F) : valV (encU F) (kP x) = some (.bl true) := by
  induction F with
  | nil => cases h
  | cons y r ih =>
    show valV ((kP y, V.bl true) :: encU r) (kP x) = _
    by_cases e : y = x
    · subst e
      exact valV_pos rfl
    · rw [valV_neg (fun z => e (kP_inj _ _ z))]
      exact ih ((List.mem_cons.mp h).resolve_left fun z => e z.symm)
theorem encU_no {F : List (Nat × Nat)} {x : Nat × Nat} (h : x ∉ F) : valV (encU F) (kP x) = none := by
  induction F with
  | nil => exact valV_nil
  | cons y r ih =>
    show valV ((kP y, V.bl true) :: encU r) (kP x) = _
    rw [valV_neg (fun z => h (by rw [← kP_inj _ _ z]; exact List.mem_cons_self))]
    exact ih fun z => h (List.mem_cons_of_mem _ z)
theorem encU_put {F : List (Nat × Nat)} {x : Nat × Nat} (h : x ∈ F) : putK (encU F) (kP x) (.bl true) = encU F := by
  unfold putK
  have hh : ((encU F).any fun kv => decide (kv.1 = kP x)) = true := List.any_eq_true.mpr ⟨(kP x, .bl true), List.mem_map.mpr ⟨x, h, rfl⟩, decide_eq_true rfl⟩
  rw [if_pos hh]
  unfold encU
  rw [List.map_map]
  refine List.map_congr_left fun y _ => ?_
  show (if kP y = kP x then (kP y, V.bl true) else (kP y, V.bl true)) = (kP y, V.bl true)
  split <;> rfl
section
variable {P : Program} {w : World} {K : PySem.W.Frag} {mg : Str → Option Value} {base : Heap}
def spUnl : Sp := fun vs H Q _ => ∃ (wv : V) (W : Web), vs = [wv] ∧ IsW H wv W ∧ Ok W ∧ ∀ H' p F, Sm H H' → H p = none → H' p = some (.dT (encU F)) → (∀ a b, a < W.length → b < W.length → ((a, b) ∈ F ↔ ¬ Alike W a b)) → Q (.ref p) H'
theorem cal_law_unlike {f : Addr} {fd : FuncData} (F : C8.Def K mg "_law_unlike" st_law_unlike f fd) (b : Binds K fd ["_law_web_here"] []) (G : Glob mg) : C8.Cal P w K mg base 1 "_law_unlike" spUnl [] := by
  refine C8.cal0 (k := 0) F b .nil sc_law_unlike (fun vs H Q E h => ?_) (fun cdv A outer s H vs Q E hr h => ?_)
  · obtain ⟨_, _, rfl, _⟩ := h
    rfl
  · obtain ⟨wv, W, rfl, hW, ok, q⟩ := h
    refine ⟨_, (pss_cons (ps_par (i := 1) (j := 2) (by rfl) sc_law_unlike.nd rfl rfl (by decide) rfl rfl (pa_cons (pe_callB (id := "len") call_len_seq (by rfl) G.len (by decide +kernel) (pa_cons (pv 0) pa_nil)) (pa_cons pe_dnewT pa_nil)) (by rfl))
    (pss_cons (ps_for PassesOwn.never rfl (pi_range1 (by rfl) G.range (pa_cons (pe_op op_mul (pv 1) (pv 1)) pa_nil)) (pg_name (i := 3) sc_law_unlike.nd rfl (.inl rfl)) 
      (pss_one (ps_for PassesOwn.never rfl (pi_range1 (by rfl) G.range (pa_cons (pv 1) pa_nil)) (pg_name (i := 4) sc_law_unlike.nd rfl (.inl rfl)) 
        (pss_one (ps_for PassesOwn.never rfl (pi_range1 (by rfl) G.range (pa_cons (pv 1) pa_nil)) (pg_name (i := 5) sc_law_unlike.nd rfl (.inl rfl)) 
          (pss_cons (ps_set (i := 6) sc_law_unlike.nd rfl (.inl rfl) (pe_cmpR op_ne (pe_callB (id := "len") call_len_seq (by rfl) G.len (by decide +kernel) (pa_cons (pe_ix ix_tup (pv 0) (pv 4) (fun _ _ => rfl)) pa_nil)) (pe_callB (id := "len") call_len_seq (by rfl) G.len (by decide +kernel) (pa_cons (pe_ix ix_tup (pv 0) (pv 5) (fun _ _ => rfl)) pa_nil)) (nomark _)))
          (pss_cons (ps_for PassesOwn.never rfl (RZ.pi_zipA (by rfl) G.zip (pa_cons (pe_ix ix_tup (pv 0) (pv 4) (fun _ _ => rfl)) (pa_cons (pe_ix ix_tup (pv 0) (pv 5) (fun _ _ => rfl)) pa_nil))) (pg_tup rfl (pgs_cons (pg_name (i := 7) sc_law_unlike.nd rfl (.inl rfl)) (pgs_cons (pg_name (i := 8) sc_law_unlike.nd rfl (.inl rfl)) pgs_nil))) 
            (pss_one (ps_set (i := 6) sc_law_unlike.nd rfl (.inl rfl) (pe_or (pv 6) (pe_or (pe_cmpR op_ne (pe_ix ix_tup (pv 7) pe_int (fun _ _ => rfl)) (pe_ix ix_tup (pv 8) pe_int (fun _ _ => rfl)) (nomark _)) (pe_one (pe_cmp (pc_din (hu_of hr) (pe_tup (pa_cons (pe_ix ix_tup (pv 7) pe_int (fun _ _ => rfl)) (pa_cons (pe_ix ix_tup (pv 8) pe_int (fun _ _ => rfl)) pa_nil))) (pv 2)) (by rfl))))))))
          (pss_one (ps_if (pt_val (pv 6)) 
            (pss_one (ps_dput (hu_of hr) (pv 2) (pe_tup (pa_cons (pv 4) (pa_cons (pv 5) pa_nil))) pe_bl rfl)) pss_nil)))))))))
    (pss_one (ps_ret (pv 2))))), ?_⟩
    have n7 := ok.n7
    obtain ⟨wa, wvs, rfl, hwa, pw⟩ := id hW
    have hwl := pw.length
    refine ⟨_, rfl, wa, wvs, rfl, .inr (SqT.of hwa), fun d nd => ⟨_, _, rfl, ?_⟩⟩
    have s0 : Sm H (upd H d (.dT [])) := Sm.new nd
    have d0 : upd H d (.dT []) d = some (.dT (encU [])) := upd_same
    generalize upd H d (.dT []) = H0 at s0 d0 ⊢
    have enn : ((wvs.length : Int) * (wvs.length : Int)).toNat = W.length * W.length := by
      rw [hwl]
      have e : ((W.length : Int) * (W.length : Int)) = ((W.length * W.length : Nat) : Int) := by rw [Int.natCast_mul]
      rw [e]; rfl
    have hnn : ((wvs.length : Int) * (wvs.length : Int)) ≤ 49 := by
      rw [hwl]
      have e : ((W.length : Int) * (W.length : Int)) = ((W.length * W.length : Nat) : Int) := by rw [Int.natCast_mul]
      rw [e]
      have : W.length * W.length ≤ 7 * 7 := Nat.mul_le_mul n7 n7
      omega
    have hn0 : 0 ≤ ((wvs.length : Int) * (wvs.length : Int)) := Int.mul_nonneg (by omega) (by omega)
    refine ⟨_, rfl, _, rfl, _, _, rfl, rfl, .inl ⟨by omega, by omega⟩, _, rfl, by omega, by omega, ?_⟩
    show ∃ W, _
    rw [enn]
    refine for_rg (fun t σ1 H1 => ∃ (F : List (Nat × Nat)) (x3 x4 x5 x6 x7 x8 : Option V), σ1 = [some (.ref wa), some (.int (wvs.length : Nat)), some (.ref d), x3, x4, x5, x6, x7, x8] ∧ Uo W t F ∧ H1 d = some (.dT (encU F)) ∧ Sm H H1) ⟨[], _, _, _, _, _, _, rfl, Uo.start, d0, s0⟩ (fun t σ1 H1 ht h => ?_) (fun σ1 H1 h => ?_)
    · obtain ⟨F0, x3, x4, x5, x6, x7, x8, rfl, uo, d1, s1⟩ := h
      refine ⟨_, rfl, _, rfl, by show -(2 ^ 62) ≤ ((wvs.length : Nat) : Int); omega, by show ((wvs.length : Nat) : Int) < 2 ^ 62; omega, for_rg (n := wvs.length) (fun a σ2 H2 => ∃ (F : List (Nat × Nat)) (x4 x5 x6 x7 x8 : Option V), σ2 = [some (.ref wa), some (.int (wvs.length : Nat)), some (.ref d), some (nI t), x4, x5, x6, x7, x8] ∧ Uv W F0 F (fun x y => x < a ∧ y < W.length) ∧ H2 d = some (.dT (encU F)) ∧ Sm H H2)
        ⟨F0, _, _, _, _, _, rfl, (Uv.start uo.us).weak (fun _ _ h => by omega), d1, s1⟩ (fun a σ2 H2 ha h => ?_) (fun σ2 H2 h => ?_)⟩
      · obtain ⟨F2, x4, x5, x6, x7, x8, rfl, uv2, d2, s2⟩ := h
        refine ⟨_, rfl, _, rfl, by show -(2 ^ 62) ≤ ((wvs.length : Nat) : Int); omega, by show ((wvs.length : Nat) : Int) < 2 ^ 62; omega, for_rg (n := wvs.length) (fun c σ3 H3 => ∃ (F : List (Nat × Nat)) (x5 x6 x7 x8 : Option V), σ3 = [some (.ref wa), some (.int (wvs.length : Nat)), some (.ref d), some (nI t), some (nI a), x5, x6, x7, x8] ∧ Uv W F0 F (fun x y => (x < a ∧ y < W.length) ∨ (x = a ∧ y < c)) ∧ H3 d = some (.dT (encU F)) ∧ Sm H H3)
          ⟨F2, _, _, _, _, rfl, uv2.weak (fun _ _ h => by omega), d2, s2⟩ (fun c σ3 H3 hc h => ?_) (fun σ3 H3 h => ?_)⟩
        · obtain ⟨F3, x5, x6, x7, x8, rfl, uv3, d3, s3⟩ := h
          have hal : a < W.length := by omega
          have hcl : c < W.length := by omega
          have hW3 := hW.mono s3.tk
          have hF3 : F3.length ≤ 49 := by
            have z := nd_le F3 (sq W.length) uv3.us.nd fun p hp => by
              have := uv3.us.ul p hp
              exact mem_sq.mpr ⟨this.1, this.2.1⟩
            rw [len_sq] at z
            exact Nat.le_trans z (Nat.mul_le_mul n7 n7)
          refine ⟨_, rfl, _, rfl, r_web hW3 hal fun ds1 dv1 e1 hds1 => ?_⟩
          obtain ⟨da1, dvs1, rfl, hda1, pds1⟩ := hds1
          refine ⟨da1, dvs1, rfl, .inr (SqT.of hda1), _, rfl, _, rfl, r_web hW3 hcl fun ds2 dv2 e2 hds2 => ?_⟩
          obtain ⟨da2, dvs2, rfl, hda2, pds2⟩ := hds2
          have hl1 := pds1.length
          have hl2 := pds2.length
          refine ⟨da2, dvs2, rfl, .inr (SqT.of hda2), rfl, ?_⟩
          refine ⟨_, rfl, _, rfl, r_web hW3 hal fun ds3 dv3 e3 hds3 => ?_⟩
          rw [e1] at e3
          obtain rfl := Option.some.inj e3
          obtain ⟨da3, dvs3, rfl, hda3, pds3⟩ := hds3
          refine ⟨_, rfl, _, rfl, r_web hW3 hcl fun ds4 dv4 e4 hds4 => ?_⟩
          rw [e2] at e4
          obtain rfl := Option.some.inj e4
          obtain ⟨da4, dvs4, rfl, hda4, pds4⟩ := hds4
          have hl3 := pds3.length
          have hl4 := pds4.length
          refine ⟨da3, da4, dvs3, dvs4, rfl, .inr ⟨SqT.of hda3, SqT.of hda4, for_it (walk_zT (xs := dvs3) (ys := dvs4) rfl) (fun i σ4 H4 => ∃ (r : Bool) (x7 x8 : Option V), σ4 = [some (.ref wa), some (.int (wvs.length : Nat)), some (.ref d), some (nI t), some (nI a), some (nI c), some (.bl r), x7, x8] ∧ (r = true ↔ Uld W (· ∈ F3) a c i) ∧ Sm H3 H4)
            ⟨_, _, _, rfl, ?_, Sm.refl H3⟩ (fun i σ4 H4 _ h => by obtain ⟨_, _, _, _, _, h⟩ := h; exact ⟨SqT.of (h.tk _ _ hda3), SqT.of (h.tk _ _ hda4)⟩) (fun i x σ4 H4 H' hi h hY => ?_) (fun σ4 H4 h => ?_)⟩⟩
          · rw [Uld.zero, deg_at e1, deg_at e2]
            show (!decide (nI dvs1.length = nI dvs2.length)) = true ↔ _
            rw [nEq, Bool.not_eq_true', decide_eq_false_iff_not]
            omega
          · obtain ⟨r, x7, x8, rfl, hr4, s4⟩ := h
            obtain ⟨T, z1, z2, rfl, nT, rfl, f1, f2⟩ := hY
            obtain ⟨⟨t1, b1⟩, g1, hp1⟩ := pget1 pds3 f1
            obtain ⟨⟨t2, b2⟩, g2, hp2⟩ := pget1 pds4 f2
            have g1' : door W a i = some (t1, b1) := by rw [door_at e1]; exact g1
            have g2' : door W c i = some (t2, b2) := by rw [door_at e2]; exact g2
            have s5 : Sm H3 (upd H4 T (.tup [z1, z2])) := s4.add nT
            refine r_un2v upd_same ?_
            generalize upd H4 T (.tup [z1, z2]) = H5 at s5 ⊢
            have d5 := s5.at_ d _ rfl d3
            obtain ⟨pa, rfl, hpa⟩ := hp1.mono s5.tk
            obtain ⟨pb, rfl, hpb⟩ := hp2.mono s5.tk
            have ul := Uld.succ (F := (· ∈ F3)) g1' g2'
            refine ⟨_, rfl, r, rfl, ifB (fun hrt => ?_) (fun hrf => ?_)⟩
            · exact ⟨true, _, _, rfl, ⟨fun _ => ul.mpr (.inl (hr4.mp hrt)), fun _ => rfl⟩, s5⟩
            · have hno : ¬ Uld W (· ∈ F3) a c i := fun z => by rw [hr4.mpr z] at hrf; cases hrf
              refine ⟨_, rfl, pa, _, 1, _, rfl, rfl, SqT.of hpa, rfl, _, rfl, pb, _, 1, _, rfl, rfl, SqT.of hpb, rfl, rfl, _, rfl, ?_⟩
              by_cases hbb : b1 = b2
              · refine ifF (ne_no hbb) ⟨_, rfl, pa, _, 0, _, rfl, rfl, SqT.of hpa, rfl, _, rfl, pb, _, 0, _, rfl, rfl, SqT.of hpb, rfl, by show 2 ≤ sizeLine; decide, fun p np => ?_⟩
                have s6 : Sm H5 (upd H5 p (.tup [nI t1, nI t2])) := Sm.new np
                refine ⟨_, rfl, d, _, rfl, DGet.p (p := (t1, t2)) (s6.at_ d _ rfl d5) ⟨p, rfl, upd_same⟩, ?_⟩
                by_cases hin : (t1, t2) ∈ F3
                · rw [encU_yes hin]
                  exact ⟨true, _, _, rfl, ⟨fun _ => ul.mpr (.inr (.inr hin)), fun _ => rfl⟩, s5.trans s6⟩
                · rw [encU_no hin]
                  refine ⟨false, _, _, rfl, ⟨fun z => (nomatch z), fun z => ?_⟩, s5.trans s6⟩
                  rcases ul.mp z with h | h | h
                  · exact absurd h hno
                  · exact absurd hbb h
                  · exact absurd h hin
              · refine ifT (ne_yes hbb) ⟨true, _, _, rfl, ⟨fun _ => ul.mpr (.inr (.inl hbb)), fun _ => rfl⟩, s5⟩
          · obtain ⟨r, x7, x8, rfl, hr4, s4⟩ := h
            have hmin : min dvs3.length dvs4.length = min (deg W a) (deg W c) := by rw [deg_at e1, deg_at e2, hl3, hl4]
            rw [hmin] at hr4
            have d4 := s4.at_ d _ rfl d3
            have stp : ∀ x y : Nat, (x < a ∧ y < W.length) ∨ (x = a ∧ y < c + 1) → ((x < a ∧ y < W.length) ∨ (x = a ∧ y < c)) ∨ (x = a ∧ y = c) := fun x y h => by omega
            refine ⟨_, rfl, r, rfl, ifB (fun hrt => ?_) (fun hrf => ?_)⟩
            · have hul : Ul W (· ∈ F3) a c := hr4.mp hrt
              refine ⟨_, rfl, _, rfl, _, rfl, by show 2 ≤ sizeLine; decide, fun p np => ?_⟩
              have s6 : Sm H4 (upd H4 p (.tup [nI a, nI c])) := Sm.new np
              have d6 := s6.at_ d _ rfl d4
              refine ⟨d, _, rfl, DPut.p (p := (a, c)) d6 ⟨p, rfl, upd_same⟩ (by unfold encU; rw [List.length_map]; exact small1000 (by omega)), ?_⟩
              by_cases hin : (a, c) ∈ F3
              · rw [encU_put hin]
                exact ⟨F3, _, _, _, _, rfl, (uv3.skip (.inr hin)).weak stp, upd_same, ((s3.trans s4).trans s6).mut nd⟩
              · rw [putK_new _ (encU_no hin)]
                refine ⟨F3 ++ [(a, c)], _, _, _, _, rfl, (uv3.add hal hcl hul hin).weak stp, ?_, ((s3.trans s4).trans s6).mut nd⟩
                rw [upd_same]
                unfold encU
                rw [List.map_append]
                rfl
            · have hul : ¬ Ul W (· ∈ F3) a c := fun z => by rw [hr4.mpr z] at hrf; cases hrf
              exact ⟨F3, _, _, _, _, rfl, (uv3.skip (.inl hul)).weak stp, d4, s3.trans s4⟩
        · obtain ⟨F3, x5, x6, x7, x8, rfl, uv3, d3, s3⟩ := h
          exact ⟨F3, _, _, _, _, _, rfl, uv3.weak (fun x y h => by omega), d3, s3⟩
      · obtain ⟨F2, x4, x5, x6, x7, x8, rfl, uv2, d2, s2⟩ := h
        exact ⟨F2, _, _, _, _, _, _, rfl, Uv.done ok uo uv2 (fun x y hx hy => ⟨by omega, hy⟩), d2, s2⟩
    · obtain ⟨F0, x3, x4, x5, x6, x7, x8, rfl, uo, d1, s1⟩ := h
      exact ⟨_, rfl, q H1 d F0 s1 nd d1 fun a b ha hb => uo.fin ok ha hb⟩
end
end K2
namespace K2
open PySem PySem.Spec PyProof.Rows L2
abbrev st_law_two : Stmt := topS 50
theorem sc_law_two : FnScope ["_law_row", "_law_web_here", "_law_want", "_law_many", "_law_apart", "_law_pairs_here", "_law_one", "_law_other", "_law_same", "_law_pair"] ["_law_row", "_law_web_here", "_law_want"] (C8.fnScope st_law_two) := C8.fnScope_by (by decide +kernel)
-- slots: _law_row=0 _law_web_here=1 _law_want=2 _law_many=3 _law_apart=4 _law_pairs_here=5 _law_one=6 _law_other=7 _law_same=8 _law_pair=9

/-- pairs of two rooms -/
def Prs (n : Nat) (ps : List (Nat × Nat)) : Prop := ∀ p ∈ ps, p.1 < n ∧ p.2 < n ∧ p.1 ≠ p.2
section
variable {P : Program} {w : World} {K : PySem.W.Frag} {mg : Str → Option Value} {base : Heap}
def spTwo (K : PySem.W.Frag) : Sp := fun vs H Q _ => ∃ (a sa : Addr) (ns : List Int) (wv : V) (W : Web) (want : Bool), vs = [.ref a, wv, .bl want] ∧ Rw K sa ns a H ∧ IsW H wv W ∧ Ok W ∧ ∀ H' p x y r, Dw K sa ns a H H' → H' p = some (.tup [nI x, nI y, .bl r]) → x < W.length → y < W.length → x ≠ y → (r = true ↔ Alike W x y) → Q (.ref p) H'
theorem cal_law_two {f : Addr} {fd : FuncData} (F : C8.Def K mg "_law_two" st_law_two f fd) (b : Binds K fd ["_law_row", "_law_web_here", "_law_want"] []) (G : Glob mg) (c_law_unlike : C8.Cal P w K mg base 1 "_law_unlike" spUnl []) (c_law_pick : C8.Cal P w K mg base 2 "_law_pick" (spPick K) []) : C8.Cal P w K mg base 3 "_law_two" (spTwo K) [] := by
  refine C8.cal0 (k := 2) F b .nil sc_law_two (fun vs H Q E h => ?_) (fun cdv A outer s H vs Q E hr h => ?_)
  · obtain ⟨_, _, _, _, _, _, rfl, _⟩ := h
    rfl
  · obtain ⟨a, sa, ns, wv, W, want, rfl, rw0, hW, ok, q⟩ := h
    refine ⟨_, (pss_cons (ps_asg (pe_tup (pa_cons (pe_callB (id := "len") call_len_seq (by rfl) G.len (by decide +kernel) (pa_cons (pv 1) pa_nil)) (pa_cons (C8.pe_c c_law_unlike hr (by decide) (by rfl) (pa_cons (pv 1) pa_nil)) pa_nil))) (pg_tup rfl (pgs_cons (pg_name (i := 3) sc_law_two.nd rfl (.inl rfl)) (pgs_cons (pg_name (i := 4) sc_law_two.nd rfl (.inr rfl)) pgs_nil))))
    (pss_cons (ps_set (i := 5) sc_law_two.nd rfl (.inl rfl) (pe_lst pa_nil))
    (pss_cons (ps_for PassesOwn.never rfl (pi_range1 (by rfl) G.range (pa_cons (pv 3) pa_nil)) (pg_name (i := 6) sc_law_two.nd rfl (.inr rfl)) 
      (pss_one (ps_set (i := 5) sc_law_two.nd rfl (.inl rfl) (pe_op op_cat (pv 5) (pe_lc (own := [("_law_other", 7)]) (g := gName 7) rfl sc_law_two.nd (pi_range1 (by rfl) G.range (pa_cons (pv 3) pa_nil)) (blkOk_by (own := [("_law_other", 7)]) (N := ["_law_row", "_law_web_here", "_law_want", "_law_many", "_law_apart", "_law_pairs_here", "_law_one", "_law_other", "_law_same", "_law_pair"]) (sc := C8.fnScope st_law_two) (by decide +kernel)) (fun _ _ _ _ _ => (pg_name (i := 7) sc_law_two.nd rfl (.inl rfl))) (fun _ _ _ _ _ => pts_one (pt_cmpR op_ne (pv 6) (pv 7) (nomark _))) (fun _ _ _ _ _ => (pe_tup (pa_cons (pv 6) (pa_cons (pv 7) pa_nil)))))))))
    (pss_cons (ps_setLc (i := 8) (own := [("_law_pair", 9)]) (g := gName 9) rfl sc_law_two.nd rfl rfl (sw_true rfl rfl rfl (by decide +kernel)) (pi_list (pv 5)) (blkOk_by (own := [("_law_pair", 9)]) (N := ["_law_row", "_law_web_here", "_law_want", "_law_many", "_law_apart", "_law_pairs_here", "_law_one", "_law_other", "_law_same", "_law_pair"]) (sc := C8.fnScope st_law_two) (by decide +kernel)) (fun _ _ _ _ _ => (pg_name (i := 9) sc_law_two.nd rfl (.inl rfl))) (fun _ _ _ _ _ => pts_one (pt_cmp (pc_dnotin (hu_of hr) (pv 9) (pv 4)) (by rfl))) (fun _ _ _ _ _ => (pv 9)))
    (pss_cons (ps_asg (C8.pe_c c_law_pick hr (by decide) (by rfl) (pa_cons (pv 0) (pa_cons (pe_ifExp (PW.pt (pw_and (pt_val (pv 2)) (pw_and1 (pt_cmpR (op_neD hr.units) (pv 8) (pe_lst pa_nil) (nomark _))))) (pv 8) (pv 5)) pa_nil))) (pg_tup rfl (pgs_cons (pg_name (i := 6) sc_law_two.nd rfl (.inr rfl)) (pgs_cons (pg_name (i := 7) sc_law_two.nd rfl (.inl rfl)) pgs_nil))))
    (pss_one (ps_ret (pe_tup (pa_cons (pv 6) (pa_cons (pv 7) (pa_cons (pe_cmp (pc_dnotin (hu_of hr) (pe_tup (pa_cons (pv 6) (pa_cons (pv 7) pa_nil))) (pv 4)) (by rfl)) pa_nil))))))))))), ?_⟩
    have n7 := ok.n7
    have n2 := ok.n2
    obtain ⟨wa, wvs, rfl, hwa, pw⟩ := id hW
    have hwl := pw.length
    refine ⟨_, rfl, wa, wvs, rfl, .inr (SqT.of hwa), _, rfl, .ref wa, W, rfl, hW, ok, fun H1 ap F1 s1 nap hap hF => ?_⟩
    refine ⟨by show 2 ≤ sizeLine; decide, fun t0 nt0 => ⟨t0, _, rfl, SqT.of upd_same, rfl, _, _, rfl, _, _, rfl, rfl, ?_⟩⟩
    have s2 : Sm H (upd H1 t0 (.tup [.int (wvs.length : Nat), .ref ap])) := s1.add nt0
    have hap2 := (Sm.new (o := .tup [.int (wvs.length : Nat), .ref ap]) nt0).at_ ap _ rfl hap
    generalize upd H1 t0 (.tup [.int (wvs.length : Nat), .ref ap]) = H2 at s2 hap2 ⊢
    refine ⟨Nat.zero_le _, fun pl0 npl0 => ?_⟩
    have s3 : Sm H2 (upd H2 pl0 (.lst [])) := Sm.new npl0
    have hpl0 : upd H2 pl0 (.lst []) pl0 = some (.lst []) := upd_same
    generalize upd H2 pl0 (.lst []) = H3 at s3 hpl0 ⊢
    refine ⟨_, rfl, _, rfl, by omega, by omega, for_rg (n := wvs.length) (fun i σ4 H4 => ∃ (pl : Addr) (pvs : List V) (ps : List (Nat × Nat)) (x6 x7 x8 x9 : Option V), σ4 = [some (.ref a), some (.ref wa), some (.bl want), some (.int (wvs.length : Nat)), some (.ref ap), some (.ref pl), x6, x7, x8, x9] ∧ H4 pl = some (.lst pvs) ∧ Paired (IsP H4) pvs ps ∧ Prs W.length ps ∧ (0 < i → 0 < ps.length) ∧ ps.length ≤ 7 * i ∧ Sm H2 H4 ∧ H2 pl = none)
      ⟨pl0, [], [], _, _, _, _, rfl, hpl0, .nil, fun p h => (by cases h), fun z => absurd z (by omega), Nat.le_refl _, s3, npl0⟩ (fun i σ4 H4 hi h => ?_) (fun σ4 H4 h => ?_)⟩
    · obtain ⟨pl, pvs, ps, x6, x7, x8, x9, rfl, hpl, pp, hps, hpos, hlen, s4, npl⟩ := h
      have hpvl := pp.length
      refine ⟨_, rfl, _, rfl, _, rfl, by omega, by omega, fun D nD => lc_it (walk_rg (n := wvs.length)) (fun j Hj => ∃ (qvs : List V) (qs : List (Nat × Nat)), Hj D = some (.lst qvs) ∧ Paired (IsP Hj) qvs qs ∧ Prs W.length qs ∧ qs.length ≤ j ∧ (∀ k, k < j → k ≠ i → (i, k) ∈ qs) ∧ Sm H4 Hj) ⟨[], [], upd_same, .nil, fun p h => (by cases h), Nat.le_refl _, fun k h => absurd h (by omega), Sm.new nD⟩ (fun _ _ _ _ => trivial) (fun j x Hj H' hj h hY => ?_) (fun Hj h => ?_)⟩
      · obtain ⟨qvs, qs, hD, pq, hqs, hql, hqm, sj⟩ := h
        obtain ⟨rfl, rfl⟩ := hY
        refine ⟨rfl, _, rfl, _, rfl, rfl, _, rfl, ?_⟩
        have hqvl := pq.length
        by_cases e : i = j
        · refine ifF (ne_no e) ⟨qvs, qs, hD, pq, hqs, by omega, fun k hk hne => hqm k (by omega) hne, sj⟩
        · refine ifT (ne_yes e) ⟨_, rfl, _, rfl, by show 2 ≤ sizeLine; decide, fun p np => ?_⟩
          have hD2 := (Sm.new (o := .tup [nI i, nI j]) np).at_ D _ rfl hD
          have t6 : Tk H' (upd (upd H' p (.tup [nI i, nI j])) D (.lst (qvs ++ [.ref p]))) := (Tk.new np).trans (Tk.lst hD2)
          refine ⟨qvs, hD2, small1000 (by omega), qvs ++ [.ref p], qs ++ [(i, j)], upd_same, PSnoc (L2.Paired.mapP pq fun _ _ z => z.mono t6) ⟨p, rfl, Tk.lst hD2 _ _ upd_same⟩, fun p hp => ?_, by rw [List.length_append]; show qs.length + 1 ≤ j + 1; omega, fun k hk hne => ?_, (sj.add np).mut nD⟩
          · rcases List.mem_append.mp hp with h | h
            · exact hqs p h
            · rw [List.mem_singleton.mp h]; exact ⟨by show i < W.length; omega, by show j < W.length; omega, e⟩
          · by_cases c : k = j
            · subst c; exact List.mem_append_right _ (List.mem_singleton.mpr rfl)
            · exact List.mem_append_left _ (hqm k (by omega) hne)
      · obtain ⟨qvs, qs, hD, pq, hqs, hql, hqm, sj⟩ := h
        have hqvl := pq.length
        refine ⟨pl, D, pvs, qvs, rfl, rfl, sj.at_ pl _ rfl hpl, hD, Nat.le_of_lt (small1000 (by omega)), fun p np => ?_⟩
        have sz : Sm H4 (upd Hj p (.lst (pvs ++ qvs))) := sj.add np
        have tkp : Tk Hj (upd Hj p (.lst (pvs ++ qvs))) := Tk.new np
        refine ⟨p, pvs ++ qvs, ps ++ qs, _, _, _, _, rfl, upd_same, PApp (L2.Paired.mapP pp fun _ _ z => z.mono sz.tk) (L2.Paired.mapP pq fun _ _ z => z.mono tkp), fun p hp => (List.mem_append.mp hp).elim (hps p) (hqs p), fun _ => ?_, by rw [List.length_append]; omega, s4.trans sz, s4.no p (sj.no p np)⟩
        rw [List.length_append]
        rcases Nat.eq_zero_or_pos i with z | z
        · have hm := hqm 1 (by omega) (by omega)
          have := List.length_pos_of_mem hm
          omega
        · have := hpos z
          omega
    · obtain ⟨pl, pvs, ps, x6, x7, x8, x9, rfl, hpl, pp, hps, hpos, hlen, s4, npl⟩ := h
      have hpvl := pp.length
      have hps0 := hpos (by omega)
      have hap4 := s4.at_ ap _ rfl hap2
      have s24 := s2.trans s4
      -- same = [pair for pair in pairs if pair not in apart]
      refine ⟨_, rfl, pl, rfl, ⟨_, SqL.of hpl⟩, fun D nD => lc_list (xs := pvs) (fun j Hj => ∃ (qvs : List V) (qs : List (Nat × Nat)), Hj D = some (.lst qvs) ∧ Paired (IsP Hj) qvs qs ∧ Prs W.length qs ∧ qs.length ≤ j ∧ Sm H4 Hj) ⟨[], [], upd_same, .nil, fun p h => (by cases h), Nat.le_refl _, Sm.new nD⟩ (fun j Hj _ h => by obtain ⟨_, _, _, _, _, _, h⟩ := h; exact SqL.of (h.at_ pl _ rfl hpl)) (fun j x Hj hx h => ?_) (fun Hj h => ?_)⟩
      · obtain ⟨qvs, qs, hD, pq, hqs, hql, sj⟩ := h
        have hqvl := pq.length
        obtain ⟨⟨u1, u2⟩, eu, hu⟩ := pget1 pp hx
        have hj := lt_of_get hx
        have huj := hu.mono sj.tk
        obtain ⟨pa, rfl, hpa⟩ := id huj
        refine ⟨rfl, _, rfl, _, rfl, ap, _, rfl, DGet.p (sj.at_ ap _ rfl hap4) huj, _, rfl, ?_⟩
        by_cases hin : (u1, u2) ∈ F1
        · rw [encU_yes hin]
          exact iteF ⟨qvs, qs, hD, pq, hqs, by omega, sj⟩
        · rw [encU_no hin]
          refine iteT ⟨_, rfl, qvs, hD, small1000 (by omega), qvs ++ [.ref pa], qs ++ [(u1, u2)], upd_same, PSnoc (L2.Paired.mapP pq fun _ _ z => z.mono (Tk.lst hD)) (huj.mono (Tk.lst hD)), fun p hp => ?_, by rw [List.length_append]; show qs.length + 1 ≤ j + 1; omega, sj.mut nD⟩
          rcases List.mem_append.mp hp with h | h
          · exact hqs p h
          · rw [List.mem_singleton.mp h]; exact hps _ (mem_of_get eu)
      · obtain ⟨qvs, qs, hD, pq, hqs, hql, sj⟩ := h
        have hqvl := pq.length
        have s5 := s24.trans sj
        have hap5 := sj.at_ ap _ rfl hap4
        have hpl5 := sj.at_ pl _ rfl hpl
        have pp5 : Paired (IsP Hj) pvs ps := L2.Paired.mapP pp fun _ _ z => z.mono sj.tk
        -- the choice
        have na : ∀ l, H l = none → l ≠ a := fun l hl z => by
          obtain ⟨xs, hx⟩ := rw0.at_
          rw [z, hx] at hl
          cases hl
        have fin : ∀ (H6 : Hp) (l : Addr) (xs : List V) (cs : List (Nat × Nat)) (Qc : VK) (Ec : XK), H l = none → Sm Hj H6 → H6 l = some (.lst xs) → Paired (IsP H6) xs cs → Prs W.length cs → 0 < cs.length → cs.length ≤ 100 →
            (∀ v x y H8, IsP H8 v (x, y) → x < W.length → y < W.length → x ≠ y → Dw K sa ns a H H8 → H8 ap = some (.dT (encU F1)) → Qc v H8) → (spPick K) [.ref a, .ref l] H6 Qc Ec := by
          intro H6 l xs cs Qc Ec hnl s6 hl px hcs h0 h1 k
          have hxl := px.length
          have dw6 : Dw K sa ns a H H6 := (Dw.refl rw0).sm (s5.trans s6)
          refine ⟨a, sa, l, ns, xs, rfl, dw6.rw_, na l hnl, hl, by omega, by omega, fun H7 j v dw7 hv => ?_⟩
          obtain ⟨⟨u1, u2⟩, eu, hu⟩ := pget1 px hv
          obtain ⟨c1, c2, c3⟩ := hcs _ (mem_of_get eu)
          exact k v u1 u2 H7 (hu.mono (dw7.tk dw6.rw_)) c1 c2 c3 (dw6.trans dw7) (dw7.lst (s6.at_ ap _ rfl hap5) (na ap nap) rfl)
        have nlD : H D = none := s24.no D nD
        have nlp : H pl = none := s2.no pl npl
        refine ⟨_, rfl, _, rfl, want, rfl, ifB (fun hw => ?_) (fun hw => ?_)⟩
        · refine ⟨_, rfl, Nat.zero_le _, fun le nle => ?_⟩
          have sle : Sm Hj (upd Hj le (.lst [])) := Sm.new nle
          refine ⟨_, _, dp_isl ⟨D, qvs, rfl, sle.at_ D _ rfl hD, L2.Paired.mapP pq fun _ _ z => z.mono sle.tk⟩, dp_isl (ps := []) ⟨le, [], rfl, upd_same, .nil⟩, sh_pairsL _, sh_pairsL _, ?_⟩
          rw [EqD.pair.list qs []]
          generalize upd Hj le (.lst []) = He at sle ⊢
          by_cases hq0 : qs = []
          · rw [decide_eq_true hq0]
            refine ⟨_, rfl, iteF ⟨_, rfl, ?_⟩⟩
            refine fin He pl pvs ps _ C8.E0 nlp sle (sle.at_ pl _ rfl hpl5) (L2.Paired.mapP pp5 fun _ _ z => z.mono sle.tk) hps hps0 (by omega) ?_
            intro v x y H8 hv hx hy hne dw8 ha8
            refine r_un2 hv ⟨_, rfl, _, rfl, _, rfl, _, rfl, by show 2 ≤ sizeLine; decide, fun p np => ?_⟩
            have s9 : Sm H8 (upd H8 p (.tup [nI x, nI y])) := Sm.new np
            refine ⟨_, rfl, ap, _, rfl, DGet.p (p := (x, y)) (s9.at_ ap _ rfl ha8) ⟨p, rfl, upd_same⟩, by show 3 ≤ sizeLine; decide, fun tp ntp => ?_⟩
            refine q _ tp x y _ ((dw8.sm s9).add ntp) upd_same hx hy hne ?_
            by_cases hin : (x, y) ∈ F1
            · rw [encU_yes hin]
              exact ⟨fun z => (nomatch z), fun z => absurd z ((hF x y hx hy).mp hin)⟩
            · rw [encU_no hin]
              exact ⟨fun _ => Classical.byContradiction fun z => hin ((hF x y hx hy).mpr z), fun _ => rfl⟩
          · rw [decide_eq_false hq0]
            refine ⟨_, rfl, iteT ⟨_, rfl, ?_⟩⟩
            have := List.length_pos_iff.mpr hq0
            refine fin He D qvs qs _ C8.E0 nlD sle (sle.at_ D _ rfl hD) (L2.Paired.mapP pq fun _ _ z => z.mono sle.tk) hqs this (by omega) ?_
            intro v x y H8 hv hx hy hne dw8 ha8
            refine r_un2 hv ⟨_, rfl, _, rfl, _, rfl, _, rfl, by show 2 ≤ sizeLine; decide, fun p np => ?_⟩
            have s9 : Sm H8 (upd H8 p (.tup [nI x, nI y])) := Sm.new np
            refine ⟨_, rfl, ap, _, rfl, DGet.p (p := (x, y)) (s9.at_ ap _ rfl ha8) ⟨p, rfl, upd_same⟩, by show 3 ≤ sizeLine; decide, fun tp ntp => ?_⟩
            refine q _ tp x y _ ((dw8.sm s9).add ntp) upd_same hx hy hne ?_
            by_cases hin : (x, y) ∈ F1
            · rw [encU_yes hin]
              exact ⟨fun z => (nomatch z), fun z => absurd z ((hF x y hx hy).mp hin)⟩
            · rw [encU_no hin]
              exact ⟨fun _ => Classical.byContradiction fun z => hin ((hF x y hx hy).mpr z), fun _ => rfl⟩
        · refine iteF ⟨_, rfl, ?_⟩
          refine fin Hj pl pvs ps _ C8.E0 nlp (Sm.refl Hj) hpl5 pp5 hps hps0 (by omega) ?_
          intro v x y H8 hv hx hy hne dw8 ha8
          refine r_un2 hv ⟨_, rfl, _, rfl, _, rfl, _, rfl, by show 2 ≤ sizeLine; decide, fun p np => ?_⟩
          have s9 : Sm H8 (upd H8 p (.tup [nI x, nI y])) := Sm.new np
          refine ⟨_, rfl, ap, _, rfl, DGet.p (p := (x, y)) (s9.at_ ap _ rfl ha8) ⟨p, rfl, upd_same⟩, by show 3 ≤ sizeLine; decide, fun tp ntp => ?_⟩
          refine q _ tp x y _ ((dw8.sm s9).add ntp) upd_same hx hy hne ?_
          by_cases hin : (x, y) ∈ F1
          · rw [encU_yes hin]
            exact ⟨fun z => (nomatch z), fun z => absurd z ((hF x y hx hy).mp hin)⟩
          · rw [encU_no hin]
            exact ⟨fun _ => Classical.byContradiction fun z => hin ((hF x y hx hy).mpr z), fun _ => rfl⟩
end
end K2
namespace K2
open PySem PySem.Spec PyProof.Rows L2
section
variable {K : PySem.W.Frag} {H : Hp} {Q : VK} {W : Web} {a b : Nat} {p : Addr} {ks : List (Nat × Nat)}
/-- min(list(near)) -/
def lnI (ks : List (Nat × Nat)) : List Int := ks.map fun z => (z.1 : Int)
theorem ln_map (ks : List (Nat × Nat)) : (encR ks).map (fun kv => kV kv.1) = (lnI ks).map V.int := by
  unfold encR lnI
  rw [List.map_map, List.map_map]
  rfl
theorem LN.pos (h : LN H W a b p ks) : 0 < (lnI ks).length := by
  have hs : shr W a b ∈ ks.map Prod.fst := (h.keys _).mpr (shr_is W a b).at_
  obtain ⟨z, hz, _⟩ := List.mem_map.mp hs
  unfold lnI
  rw [List.length_map]
  exact List.length_pos_of_mem hz
theorem LN.min_ (h : LN H W a b p ks) {m : Int} (hm : m ∈ lnI ks) (hl : ∀ y, y ∈ lnI ks → m ≤ y) : m = ((shr W a b : Nat) : Int) := by
  obtain ⟨z, hz, rfl⟩ := List.mem_map.mp hm
  have sz : Shr W a b z.1 := by
    refine ⟨(h.keys z.1).mp (List.mem_map.mpr ⟨z, hz, rfl⟩), fun p hp => ?_⟩
    obtain ⟨y, hy, e2⟩ := List.mem_map.mp ((h.keys (pd W p)).mpr ⟨p, hp, rfl⟩)
    have := hl _ (List.mem_map.mpr ⟨y, hy, rfl⟩)
    omega
  rw [← shr_of sz]
/-- which pair lies there -/
def kOf (H : Hp) : V → Int × Int
  | .ref t => match H t with
    | some (.tup [.int i, .int j]) => (i, j)
    | _ => (0, 0)
  | _ => (0, 0)
theorem kOf_p {v : V} {z : Nat × Nat} (h : IsP H v z) : kOf H v = ((z.1 : Int), (z.2 : Int)) := by
  obtain ⟨t, rfl, h⟩ := h
  show (match H t with | some (.tup [.int i, .int j]) => (i, j) | _ => (0, 0)) = _
  rw [h]
theorem asc_of {ys : List V} {qs : List (Nat × Nat)} (h : Paired (IsP H) ys qs) (s : SrtO.Srtd (ltP (kOf H)) ys) (nd : qs.Nodup) : Asc qs := by
  induction h with
  | nil => exact List.Pairwise.nil
  | @cons v z ys qs hz t ih =>
    obtain ⟨s1, s2⟩ := List.pairwise_cons.mp s
    obtain ⟨n1, n2⟩ := List.nodup_cons.mp nd
    refine List.pairwise_cons.mpr ⟨fun y hy => ?_, ih s2 n2⟩
    obtain ⟨j, hj, ej⟩ := get_of_mem hy
    obtain ⟨u, hu, hp⟩ := pget2 t ej
    have z1 := s1 u (mem_of_get hu)
    have z2 : SrtO.lexB (kOf H u) (kOf H v) = false := z1
    rw [kOf_p hp, kOf_p hz] at z2
    have z3 := SrtO.lexB_no.mp z2
    have ne : z ≠ y := fun e => n1 (e ▸ hy)
    have z4 : ¬ (z.1 = y.1 ∧ z.2 = y.2) := fun e => ne (Prod.ext e.1 e.2)
    simp only at z3
    omega
theorem sortP {vs : List V} {ps : List (Nat × Nat)} (pp : Paired (IsP H) vs ps) (nd : ps.Nodup) : (∀ x ∈ vs, ∃ t, x = V.ref t ∧ H t = some (.tup [.int (kOf H x).1, .int (kOf H x).2])) ∧ ∀ ys p, SrtO.Srtd (ltP (kOf H)) ys → SrtO.Stb (ltP (kOf H)) ys vs → H p = none → ∃ qs, Paired (IsP (upd H p (.lst ys))) ys qs ∧ qs.Perm ps ∧ Asc qs := by
  refine ⟨fun x hx => ?_, fun ys p srt stb np => ?_⟩
  · obtain ⟨i, hi, ei⟩ := get_of_mem hx
    obtain ⟨z, hz, hp⟩ := pget1 pp ei
    obtain ⟨t, rfl, ht⟩ := id hp
    exact ⟨t, rfl, by rw [kOf_p hp]; exact ht⟩
  · obtain ⟨qs, h1, h2⟩ := PPerm pp stb.perm
    exact ⟨qs, L2.Paired.mapP h1 fun _ _ z => z.mono (Tk.new np), h2, asc_of h1 srt (h2.nodup_iff.mpr nd)⟩
theorem r_sortP {l : Addr} {vs : List V} {ps : List (Nat × Nat)} (hl : H l = some (.lst vs)) (pp : Paired (IsP H) vs ps) (nd : ps.Nodup) (q : ∀ H' p ys qs, Sm H H' → H' p = some (.lst ys) → Paired (IsP H') ys qs → qs.Perm ps → Asc qs → Q (.ref p) H') : rSortedPO K [.ref l] H Q := by
  refine ⟨l, vs, kOf H, rfl, SqL.of hl, fun x hx => ?_, fun ys p srt stb np => ?_⟩
  · obtain ⟨i, hi, ei⟩ := get_of_mem hx
    obtain ⟨z, hz, hp⟩ := pget1 pp ei
    obtain ⟨t, rfl, ht⟩ := id hp
    exact ⟨t, rfl, by rw [kOf_p hp]; exact ht⟩
  · obtain ⟨qs, h1, h2⟩ := PPerm pp stb.perm
    exact q _ p ys qs (Sm.new np) upd_same (L2.Paired.mapP h1 fun _ _ z => z.mono (Tk.new np)) h2 (asc_of h1 srt (h2.nodup_iff.mpr nd))
end
end K2
namespace K2
/-! M6: what the law's end needs of lists of pairs. -/
/-- all pairs, by their number -/
def allP (m n : Nat) : List (Nat × Nat) := (List.range n).map fun k => (k / m, k - k / m * m)
theorem allP_len (m n : Nat) : (allP m n).length = n := by unfold allP; rw [List.length_map, List.length_range]
theorem allP_succ (m n : Nat) : allP m (n + 1) = allP m n ++ [(n / m, n - n / m * m)] := by
  unfold allP
  rw [List.range_succ, List.map_append]
  rfl
theorem allP_get {m n i : Nat} {p : Nat × Nat} (h : (allP m n)[i]? = some p) : i < n ∧ p = (i / m, i - i / m * m) := by
  have hi := (List.getElem?_eq_some_iff.mp h).1
  rw [allP_len] at hi
  refine ⟨hi, ?_⟩
  unfold allP at h
  rw [List.getElem?_map, List.getElem?_range hi] at h
  exact (Option.some.inj h).symm
theorem allP_nd (m n : Nat) : (allP m n).Nodup := by
  unfold allP
  refine List.Pairwise.map _ (fun a b (h : a ≠ b) => ?_) List.nodup_range
  intro e
  have e1 : a / m = b / m := congrArg Prod.fst e
  have e2 : a - a / m * m = b - b / m * m := congrArg Prod.snd e
  have l1 := Nat.div_mul_le_self a m
  have l2 := Nat.div_mul_le_self b m
  rw [e1] at e2 l1
  omega
theorem allP_lt {m : Nat} {p : Nat × Nat} (h : p ∈ allP m (m * m)) : p.1 < m ∧ p.2 < m := by
  unfold allP at h
  obtain ⟨k, hk, rfl⟩ := List.mem_map.mp h
  have hk2 := List.mem_range.mp hk
  have m0 : 0 < m := by
    rcases Nat.eq_zero_or_pos m with z | z
    · rw [z] at hk2; omega
    · exact z
  refine ⟨(Nat.div_lt_iff_lt_mul m0).mpr hk2, ?_⟩
  have e := Nat.div_add_mod k m
  have l := Nat.mod_lt k m0
  rw [Nat.mul_comm] at e
  show k - k / m * m < m
  omega
/-- two ascending lists with the same members -/
theorem asc_ext : ∀ {l m : List (Nat × Nat)}, (l.Pairwise fun a b => a.1 < b.1 ∨ (a.1 = b.1 ∧ a.2 < b.2)) → (m.Pairwise fun a b => a.1 < b.1 ∨ (a.1 = b.1 ∧ a.2 < b.2)) → (∀ x, x ∈ l ↔ x ∈ m) → l = m
  | [], [], _, _, _ => rfl
  | [], y :: m, _, _, h => by have := (h y).mpr List.mem_cons_self; simp at this
  | x :: l, [], _, _, h => by have := (h x).mp List.mem_cons_self; simp at this
  | x :: l, y :: m, h1, h2, h => by
    obtain ⟨a1, a2⟩ := List.pairwise_cons.mp h1
    obtain ⟨b1, b2⟩ := List.pairwise_cons.mp h2
    have exy : x = y := by
      rcases List.mem_cons.mp ((h x).mp List.mem_cons_self) with z | z
      · exact z
      · rcases List.mem_cons.mp ((h y).mpr List.mem_cons_self) with w | w
        · exact w.symm
        · have := a1 _ w
          have := b1 _ z
          omega
    subst exy
    have ih : l = m := asc_ext a2 b2 fun z => by
      constructor
      · intro hz
        rcases List.mem_cons.mp ((h z).mp (List.mem_cons_of_mem _ hz)) with w | w
        · subst w
          have := a1 _ hz
          omega
        · exact w
      · intro hz
        rcases List.mem_cons.mp ((h z).mpr (List.mem_cons_of_mem _ hz)) with w | w
        · subst w
          have := b1 _ hz
          omega
        · exact w
    rw [ih]
theorem not_asc {l : List (Nat × Nat)} {z : Nat × Nat} (hz : z ∈ l) : ¬ ((l.reverse ++ l).Pairwise fun a b => a.1 < b.1 ∨ (a.1 = b.1 ∧ a.2 < b.2)) := fun h => by
  have := (List.pairwise_append.mp h).2.2 z (List.mem_reverse.mpr hz) z hz
  omega
/-! the layers joined -/
section
variable {W : Web} {a b : Nat}
theorem cat_mem {Ls : List (List (Nat × Nat))} (hl : ∀ (i : Nat) l, Ls[i]? = some l → l.Nodup ∧ ∀ x, x ∈ l ↔ Pl W a b i x) (n : Nat) (x : Nat × Nat) : x ∈ (Ls.take n).flatten ↔ ∃ i, i < n ∧ i < Ls.length ∧ Pl W a b i x := by
  rw [List.mem_flatten]
  constructor
  · rintro ⟨l, h1, h2⟩
    obtain ⟨i, hi, e⟩ := get_of_mem h1
    have hi2 := hi
    rw [List.length_take] at hi2
    rw [List.getElem?_take, if_pos (by omega)] at e
    exact ⟨i, by omega, by omega, ((hl i l e).2 x).mp h2⟩
  · rintro ⟨i, h1, h2, h3⟩
    obtain ⟨l, e⟩ := get_of_lt h2
    refine ⟨l, mem_of_get (i := i) ?_, ((hl i l e).2 x).mpr h3⟩
    rw [List.getElem?_take, if_pos h1]
    exact e
theorem cat_succ {Ls : List (List (Nat × Nat))} {n : Nat} {l : List (Nat × Nat)} (h : Ls[n]? = some l) : (Ls.take (n + 1)).flatten = (Ls.take n).flatten ++ l := by
  rw [List.take_add_one, h]
  simp
theorem cat_nd {Ls : List (List (Nat × Nat))} (hl : ∀ (i : Nat) l, Ls[i]? = some l → l.Nodup ∧ ∀ x, x ∈ l ↔ Pl W a b i x) : ∀ n, n ≤ Ls.length → (Ls.take n).flatten.Nodup
  | 0, _ => by simp
  | n + 1, h => by
    obtain ⟨l, e⟩ := get_of_lt (l := Ls) (i := n) (by omega)
    rw [cat_succ e]
    refine List.nodup_append.mpr ⟨cat_nd hl n (by omega), (hl n l e).1, fun x hx y hy exy => ?_⟩
    subst exy
    obtain ⟨i, h1, h2, h3⟩ := (cat_mem hl n x).mp hx
    have := Md.uniq h3 (((hl n l e).2 x).mp hy)
    omega
theorem cat_le (ok : Ok W) (ha : a < W.length) (hb : b < W.length) {Ls : List (List (Nat × Nat))} (hl : ∀ (i : Nat) l, Ls[i]? = some l → l.Nodup ∧ ∀ x, x ∈ l ↔ Pl W a b i x) {n : Nat} (h : n ≤ Ls.length) : (Ls.take n).flatten.length ≤ 49 := by
  have z := nd_le _ (sq W.length) (cat_nd hl n h) fun x hx => by
    obtain ⟨i, _, _, h3⟩ := (cat_mem hl n x).mp hx
    exact mem_sq.mpr (lv_lt ok ha hb h3.1)
  rw [len_sq] at z
  exact Nat.le_trans z (Nat.mul_le_mul ok.n7 ok.n7)
theorem cat_all {Ls : List (List (Nat × Nat))} (hl : ∀ (i : Nat) l, Ls[i]? = some l → l.Nodup ∧ ∀ x, x ∈ l ↔ Pl W a b i x) (ha : ∀ i x, Pl W a b i x → i < Ls.length) (x : Nat × Nat) : x ∈ (Ls.take Ls.length).flatten ↔ Rp W a b x := by
  rw [cat_mem hl]
  exact ⟨fun ⟨i, _, _, h⟩ => ⟨i, h⟩, fun ⟨i, h⟩ => ⟨i, ha i x h, ha i x h, h⟩⟩
end
end K2
namespace K2
open PySem PySem.Spec PyProof.Rows L2
/-! D59: what the law's end needs. -/
theorem fdivE (i m : Nat) : (i : Int).fdiv (m : Int) = ((i / m : Nat) : Int) := by
  rw [Int.fdiv_eq_ediv_of_nonneg _ (by omega), Int.natCast_ediv]
theorem fsubE (i m : Nat) : (i : Int) - (i : Int).fdiv (m : Int) * (m : Int) = ((i - i / m * m : Nat) : Int) := by
  have h := Nat.div_mul_le_self i m
  rw [fdivE, ← Int.natCast_mul]
  omega
theorem sa_pair {H : Hp} {v u : V} {p : Nat × Nat} (h1 : IsP H v p) (h2 : IsP H u p) : Sa 1 H v u := by
  obtain ⟨a, rfl, h1⟩ := h1
  obtain ⟨b, rfl, h2⟩ := h2
  exact .inr ⟨a, b, _, _, rfl, rfl, .inr ⟨h1, h2⟩, .cons (.inl ⟨_, rfl, rfl⟩) (.cons (.inl ⟨_, rfl, rfl⟩) .nil), by show 2 ≤ 200; decide⟩
theorem sa_pairs {H : Hp} {xs ys : List V} {ps : List (Nat × Nat)} (h1 : Paired (IsP H) xs ps) (h2 : Paired (IsP H) ys ps) : Paired (Sa 1 H) xs ys := by
  induction h1 generalizing ys with
  | nil => cases h2; exact .nil
  | cons h t ih =>
    cases h2 with
    | cons g s => exact .cons (sa_pair h g) (ih s)
theorem PRev {α β : Type} {F : α → β → Prop} {l : List α} {m : List β} (h : Paired F l m) : Paired F l.reverse m.reverse := by
  induction h with
  | nil => exact .nil
  | cons h t ih =>
    rw [List.reverse_cons, List.reverse_cons]
    exact PSnoc ih h
theorem PTail {α β : Type} {F : α → β → Prop} {l : List α} {m : List β} (h : Paired F l m) : Paired F l.tail m.tail := by
  cases h with
  | nil => exact .nil
  | cons _ t => exact t
section
variable {Tl : List Addr} {W : Web} {x y d : Nat} {H H' : Hp} {v wv : V}
/-- what shows no lot -/
def BadV (W : Web) (x y d : Nat) (H : Hp) (v : V) : Prop := NoLot W H v ∨ ∃ ps, IsPs H v ps ∧ (∀ p ∈ ps, p.1 < W.length ∧ p.2 < W.length) ∧ ps.length ≤ 200 ∧ ¬ (Asc ps ∧ Bars W x y d ps)
theorem BadV.sm (e : Sm H H') (h : BadV W x y d H v) : BadV W x y d H' v := by
  rcases h with h | ⟨ps, h, g⟩
  · exact .inl (h.sm e)
  · exact .inr ⟨ps, h.mono e.tk, g⟩
theorem sb_bad (h : BadV W x y d H v) (hW : IsW H wv W) (ok : Ok W) (hT : Tbs Tl H) (hx : x < W.length) (hy : y < W.length) (hne : x ≠ y) (hd : d ≤ 20) {Q : VK} {E : XK} (q : ∀ H', Sm H H' → Q (.bl false) H') : spSB Tl [wv, nI x, nI y, nI d, v] H Q E := by
  refine ⟨wv, v, W, x, y, d, rfl, hW, ok, hT, hx, hy, hne, hd, ?_⟩
  rcases h with h | ⟨ps, h, hl, h2, hn⟩
  · exact .inr (.inr ⟨h, q⟩)
  · refine .inr (.inl ⟨ps, h, hl, h2, fun H' r s r1 _ => ?_⟩)
    cases r with
    | false => exact q H' s
    | true => exact absurd (r1 rfl) hn
end
end K2
namespace K2
open PySem PySem.Spec PyProof.Rows L2
abbrev st_law : Stmt := topS 58
theorem sc_law : FnScope ["_law_script", "_law_row", "_law_web_here", "_law_one", "_law_other", "_law_same", "_law_delay", "_law_many", "_law_near_here", "_law_least", "_law_worst", "_law_mine", "_law_its", "e", "_law_lot", "_law_every", "_law_pairs_here", "_law_bad", "_law_at"] ["_law_script"] (C8.fnScope st_law) := C8.fnScope_by (by decide +kernel)
-- slots: _law_script=0 _law_row=1 _law_web_here=2 _law_one=3 _law_other=4 _law_same=5 _law_delay=6 _law_many=7 _law_near_here=8 _law_least=9 _law_worst=10 _law_mine=11 _law_its=12 e=13 _law_lot=14 _law_every=15 _law_pairs_here=16 _law_bad=17 _law_at=18

section
variable {Tl : List Addr} {C : Addr} {P : Program} {w : World} {K : PySem.W.Frag} {mg : Str → Option Value} {base : Heap}
def spLeast (Tl : List Addr) : Sp := fun vs H Q _ => ∃ (wv : V) (W : Web) (a b : Nat), vs = [wv, nI a, nI b] ∧ IsW H wv W ∧ Ok W ∧ Tbs Tl H ∧ a < W.length ∧ b < W.length ∧ a ≠ b ∧ ∀ H', Sm H H' → Q (nI (ldl W a b)) H'
def spLaw (K : PySem.W.Frag) (Tl : List Addr) : Sp := fun vs H Q _ => ∃ (sa : Addr) (ns : List Int), vs = [.ref sa] ∧ SqL K H sa (ns.map V.int) ∧ Tbs Tl H ∧ ∀ H', Q (.bl true) H'
/-- the worst so far: rooms below i, and room i with those below j -/
def WI (W : Web) (i j m : Nat) : Prop := (∀ k l, l < k → (k < i ∨ (k = i ∧ l < j)) → ldl W k l ≤ m) ∧ (m = 0 ∨ ∃ k l, k < W.length ∧ l < k ∧ ldl W k l = m)
theorem max_e (m L : Nat) : V.int (if (L : Int) > (m : Int) then (L : Int) else (m : Int)) = nI (max m L) := by
  by_cases h : (L : Int) > (m : Int)
  · rw [if_pos h, Nat.max_eq_right (by omega)]
  · rw [if_neg h, Nat.max_eq_left (by omega)]
theorem WI.step {W : Web} {i j m : Nat} (h : WI W i j m) (hi : i < W.length) (hj : j < i) : WI W i (j + 1) (max m (ldl W i j)) := by
  refine ⟨fun k l hl hk => ?_, ?_⟩
  · by_cases c : k = i ∧ l = j
    · rw [c.1, c.2]; exact Nat.le_max_right _ _
    · exact Nat.le_trans (h.1 k l hl (by omega)) (Nat.le_max_left _ _)
  · rcases Nat.le_total m (ldl W i j) with z | z
    · rw [Nat.max_eq_right z]
      exact .inr ⟨i, j, hi, hj, rfl⟩
    · rw [Nat.max_eq_left z]
      exact h.2
theorem WI.row {W : Web} {i m : Nat} (h : WI W i i m) : WI W (i + 1) 0 m := ⟨fun k l hl hk => h.1 k l hl (by omega), h.2⟩
theorem WI.wst {W : Web} {m : Nat} (h : WI W W.length 0 m) (n2 : 2 ≤ W.length) : Wst W m := by
  refine ⟨?_, fun i j hi hj => h.1 i j hj (.inl hi)⟩
  rcases h.2 with z | z
  · have := h.1 1 0 (by omega) (.inl (by omega))
    exact ⟨1, 0, by omega, by omega, by omega⟩
  · exact z
theorem ok_law {f fS : Addr} {fd fdS : FuncData} (T : UnlT K mg C) (F : C8.Def K mg "law" st_law f fd) (G : Glob mg) (FS : FnOk P w K mg base (L2.CX P w) 9 fS fdS ["web", "one", "other"] (spUnX Tl C)) (gS : mg "shrink" = some (.ref fS)) (kS : PySem.W.keepIn K (.ref fS) = true) (bS : Binds K fdS ["web", "one", "other"] [])
    (c_law_web : C8.Cal P w K mg base 5 "_law_web" (spGen K) []) (c_law_two : C8.Cal P w K mg base 3 "_law_two" (spTwo K) []) (c_law_taken : C8.Cal P w K mg base 1 "_law_taken" (spTaken K) []) (c_law_near : C8.Cal P w K mg base 2 "_law_near" spLNear []) (c_law_alike : C8.Cal P w K mg base 3 "_law_alike" (spAl 2) [])
    (c_least_delay : C8.Cal P w K mg base 8 "least_delay" (spLeast Tl) []) (c_can_meet : C8.Cal P w K mg base 8 "can_meet" (spCanMeet Tl) []) (c_law_unlike : C8.Cal P w K mg base 1 "_law_unlike" spUnl []) (c_worst_delay : C8.Cal P w K mg base 8 "worst_delay" (spWorst Tl) []) (c_law_rows_told : C8.Cal P w K mg base 10 "_law_rows_told" (spRT K Tl) [])
    (c_barring_lot : C8.Cal P w K mg base 8 "barring_lot" (spBar Tl) []) (c_shows_barring_lot : C8.Cal P w K mg base 8 "shows_barring_lot" (spSB Tl) []) (c_law_pairs : C8.Cal P w K mg base 1 "_law_pairs" spLPairs []) (c_law_bars : C8.Cal P w K mg base 2 "_law_bars" spLBars []) : FnOk P w K mg base CX0 11 f fd ["_law_script"] (spLaw K Tl) := by
  refine C8.fn0 (k := 10) F.fn sc_law (fun vs H Q E h => ?_) (fun cdv A outer s H vs Q E hr h => ?_)
  · obtain ⟨_, _, rfl, _⟩ := h
    rfl
  · obtain ⟨sa, ns, rfl, hS, hT, q⟩ := h
    refine ⟨_, (pss_cons (ps_set (i := 1) sc_law.nd rfl (.inl rfl) (pe_lst (pa_cons (pv 0) (pa_cons pe_int (pa_cons pe_int (pa_cons pe_int pa_nil))))))
    (pss_cons (ps_set (i := 2) sc_law.nd rfl (.inl rfl) (C8.pe_c c_law_web hr (by decide) (by rfl) (pa_cons (pv 1) pa_nil)))
    (pss_cons (ps_asg (C8.pe_c c_law_two hr (by decide) (by rfl) (pa_cons (pv 1) (pa_cons (pv 2) (pa_cons (pe_cmpR op_gt (C8.pe_c c_law_taken hr (by decide) (by rfl) (pa_cons (pv 1) (pa_cons pe_int pa_nil))) pe_int (nomark _)) pa_nil)))) (pg_tup rfl (pgs_cons (pg_name (i := 3) sc_law.nd rfl (.inl rfl)) (pgs_cons (pg_name (i := 4) sc_law.nd rfl (.inl rfl)) (pgs_cons (pg_name (i := 5) sc_law.nd rfl (.inl rfl)) pgs_nil)))))
    (pss_cons (ps_asg (pe_tup (pa_cons (C8.pe_c c_law_taken hr (by decide) (by rfl) (pa_cons (pv 1) (pa_cons pe_int pa_nil))) (pa_cons (pe_callB (id := "len") call_len_seq (by rfl) G.len (by decide +kernel) (pa_cons (pv 2) pa_nil)) pa_nil))) (pg_tup rfl (pgs_cons (pg_name (i := 6) sc_law.nd rfl (.inl rfl)) (pgs_cons (pg_name (i := 7) sc_law.nd rfl (.inr rfl)) pgs_nil))))
    (pss_cons (ps_set (i := 8) sc_law.nd rfl (.inl rfl) (pe_ifExp (pt_val (pv 5)) (C8.pe_c c_law_near hr (by decide) (by rfl) (pa_cons (pv 2) (pa_cons (pv 3) (pa_cons (pv 4) pa_nil)))) (pe_disp (pps_cons pe_int pe_int pps_nil) (by rfl) (by rfl) (by intro z; cases z) (by decide))))
    (pss_cons (ps_set (i := 9) sc_law.nd rfl (.inl rfl) (pe_callB (id := "min") (cr_min rfl) (by rfl) G.min (by decide +kernel) (pa_cons (pe_callTy (T := "list") (call_list_dK rfl) (by rfl) G.list (by decide +kernel) (pa_cons (pv 8) pa_nil)) pa_nil)))
    (pss_cons (ps_if (pt_not (pt_val (C8.pe_c c_law_alike hr (by decide) (by rfl) (pa_cons (pe_lst (pa_cons (C8.pe_c c_least_delay hr (by decide) (by rfl) (pa_cons (pv 2) (pa_cons (pv 3) (pa_cons (pv 4) pa_nil)))) (pa_cons (C8.pe_c c_can_meet hr (by decide) (by rfl) (pa_cons (pv 2) (pa_cons (pv 3) (pa_cons (pv 4) (pa_cons (pv 6) pa_nil))))) pa_nil))) (pa_cons (pe_lst (pa_cons (pv 9) (pa_cons (pe_cmpR op_le (pv 9) (pv 6) (nomark _)) pa_nil))) pa_nil))))) 
      (pss_one (ps_ret pe_bl)) pss_nil)
    (pss_cons (ps_set (i := 10) sc_law.nd rfl (.inl rfl) pe_int)
    (pss_cons (ps_for PassesOwn.never rfl (pi_range1 (by rfl) G.range (pa_cons (pv 7) pa_nil)) (pg_name (i := 11) sc_law.nd rfl (.inl rfl)) 
      (pss_one (ps_for PassesOwn.never rfl (pi_range1 (by rfl) G.range (pa_cons (pv 11) pa_nil)) (pg_name (i := 12) sc_law.nd rfl (.inl rfl)) 
        (pss_one (ps_if (pt_cmp (pc_dnotin (hu_of hr) (pe_tup (pa_cons (pv 11) (pa_cons (pv 12) pa_nil))) (C8.pe_c c_law_unlike hr (by decide) (by rfl) (pa_cons (pv 2) pa_nil))) (by rfl)) 
          (pss_one (ps_set (i := 10) sc_law.nd rfl (.inl rfl) (pe_callB (id := "max") (call_max2 rfl) (by rfl) G.max (by decide +kernel) (pa_cons (pv 10) (pa_cons (pe_callB (id := "min") (cr_min rfl) (by rfl) G.min (by decide +kernel) (pa_cons (pe_callTy (T := "list") (call_list_dK rfl) (by rfl) G.list (by decide +kernel) (pa_cons (C8.pe_c c_law_near hr (by decide) (by rfl) (pa_cons (pv 2) (pa_cons (pv 11) (pa_cons (pv 12) pa_nil)))) pa_nil)) pa_nil)) pa_nil))))) pss_nil)))))
    (pss_cons (ps_if (pt_not (pt_val (C8.pe_c c_law_alike hr (by decide) (by rfl) (pa_cons (C8.pe_c c_worst_delay hr (by decide) (by rfl) (pa_cons (pv 2) pa_nil)) (pa_cons (pv 10) pa_nil))))) 
      (pss_one (ps_ret pe_bl)) pss_nil)
    (pss_cons (ps_if (pt_val (pv 5)) 
      (pss_one (ps_if (pt_not (pt_val (C8.pe_c c_law_rows_told hr (by decide) (by rfl) (pa_cons (pv 1) (pa_cons (pv 2) (pa_cons (pv 3) (pa_cons (pv 4) (pa_cons (pv 9) (pa_cons (pv 8) pa_nil))))))))) 
        (pss_one (ps_ret pe_bl)) pss_nil)) 
      (pss_one (ps_try_as (i := 13) (tb := fun W => tSeq (tDrop (tCallS (spUnX Tl C) (WE W) (tCons (tVar 2) (tCons (tVar 3) (tCons (tVar 4) tNil))))) (tRet (tC (.bl false)))) (ts := fun _ _ _ => tAsg (tC (.int 0)) (gName 9)) (Wout := fun _ _ _ _ => False) rfl rfl sc_law.nd rfl rfl ⟨by rfl, by decide, .inl T.g⟩ takes0 (fun W pn xe tk _ => pss_cons (ps_expr (pe_callS FS (hr.mono (by decide)) (by rfl) gS kS bS (fun σ => passAt tk σ) (by exact (pa_cons (pv 2) (pa_cons (pv 3) (pa_cons (pv 4) pa_nil)))))) (pss_one (ps_ret pe_bl))) (fun a oe cls d pn hz hf => 
        (pss_one (ps_set (i := 9) sc_law.nd rfl (.inl rfl) pe_int))))))
    (pss_cons (ps_set (i := 14) sc_law.nd rfl (.inl rfl) (C8.pe_c c_barring_lot hr (by decide) (by rfl) (pa_cons (pv 2) (pa_cons (pv 3) (pa_cons (pv 4) (pa_cons (pv 6) pa_nil))))))
    (pss_cons (ps_if (PW.pt (pw_or (pt_cmpR op_ne (pe_cmpR op_isN (pv 14) pe_non (nomark _)) (pe_cmpR op_le (pv 9) (pv 6) (nomark _)) (nomark _)) (pw_or1 (pt_cmpR op_notBl (C8.pe_c c_shows_barring_lot hr (by decide) (by rfl) (pa_cons (pv 2) (pa_cons (pv 3) (pa_cons (pv 4) (pa_cons (pv 6) (pa_cons (pv 14) pa_nil)))))) pe_bl (nomark _))))) 
      (pss_one (ps_ret pe_bl)) pss_nil)
    (pss_cons (ps_if (pt_cmpR op_notN (pv 14) pe_non (nomark _)) 
      (pss_cons (ps_set (i := 15) sc_law.nd rfl (.inl rfl) (pe_lst pa_nil))
      (pss_cons (ps_for PassesOwn.never rfl (pi_list (C8.pe_c c_law_pairs hr (by decide) (by rfl) (pa_cons (pv 2) (pa_cons (pv 3) (pa_cons (pv 4) pa_nil))))) (pg_name (i := 16) sc_law.nd rfl (.inl rfl)) 
        (pss_one (ps_set (i := 15) sc_law.nd rfl (.inl rfl) (pe_op op_cat (pv 15) (pv 16)))))
      (pss_cons (ps_if (PW.pt (pw_or (pt_not (pt_val (C8.pe_c c_law_alike hr (by decide) (by rfl) (pa_cons (pv 14) (pa_cons (pe_tupleOf (by rfl) G.tuple (pe_callB (id := "sorted") cr_sortedPO (by rfl) G.sorted (by decide +kernel) (pa_cons (pv 15) pa_nil))) pa_nil))))) (pw_or1 (pt_not (pt_val (C8.pe_c c_law_bars hr (by decide) (by rfl) (pa_cons (pv 2) (pa_cons (pv 3) (pa_cons (pv 4) (pa_cons (pv 6) (pa_cons (pv 14) pa_nil))))))))))) 
        (pss_one (ps_ret pe_bl)) pss_nil)
      (pss_cons (ps_if (pt_cmpR op_ne (C8.pe_c c_shows_barring_lot hr (by decide) (by rfl) (pa_cons (pv 2) (pa_cons (pv 3) (pa_cons (pv 4) (pa_cons (pv 6) (pa_cons (pe_slice sl_tupA (pv 14) (po_some pe_int) po_none) pa_nil)))))) (C8.pe_c c_law_bars hr (by decide) (by rfl) (pa_cons (pv 2) (pa_cons (pv 3) (pa_cons (pv 4) (pa_cons (pv 6) (pa_cons (pe_slice sl_tupA (pv 14) (po_some pe_int) po_none) pa_nil)))))) (nomark _)) 
        (pss_one (ps_ret pe_bl)) pss_nil)
      (pss_one (ps_for PassesOwn.never rfl (pi_list (pe_lst (pa_cons (pe_callTy (T := "list") call_list_of (by rfl) G.list (by decide +kernel) (pa_cons (pv 14) pa_nil)) (pa_cons (pe_op op_catA (pe_revT (pv 14)) (pv 14)) (pa_cons (pe_op op_catA (pv 14) (pe_tup (pa_cons (pe_tup (pa_cons pe_int (pa_cons (pv 7) pa_nil))) pa_nil))) (pa_cons (pe_op op_catA (pv 14) (pe_tup (pa_cons pe_non pa_nil))) (pa_cons (pe_tup pa_nil) (pa_cons pe_dnewK (pa_cons pe_str pa_nil))))))))) (pg_name (i := 17) sc_law.nd rfl (.inl rfl)) 
        (pss_one (ps_if (pt_cmpR op_notBl (C8.pe_c c_shows_barring_lot hr (by decide) (by rfl) (pa_cons (pv 2) (pa_cons (pv 3) (pa_cons (pv 4) (pa_cons (pv 6) (pa_cons (pv 17) pa_nil)))))) pe_bl (nomark _)) 
          (pss_one (ps_ret pe_bl)) pss_nil)))))))) pss_nil)
    (pss_cons (ps_set (i := 15) sc_law.nd rfl (.inl rfl) (pe_tupleOf (by rfl) G.tuple (pe_lc (own := [("_law_mine", 11), ("_law_its", 12)]) (g := gTup K 2 (gCons (gName 11) (gCons (gName 12) gNil))) rfl sc_law.nd (pi_list (pe_callB (id := "sorted") cr_sortedPO (by rfl) G.sorted (by decide +kernel) (pa_cons (pe_lc (own := [("_law_at", 18)]) (g := gName 18) (tt := tYes) rfl sc_law.nd (pi_range1 (by rfl) G.range (pa_cons (pe_op op_mul (pv 7) (pv 7)) pa_nil)) (blkOk_by (own := [("_law_at", 18)]) (N := ["_law_script", "_law_row", "_law_web_here", "_law_one", "_law_other", "_law_same", "_law_delay", "_law_many", "_law_near_here", "_law_least", "_law_worst", "_law_mine", "_law_its", "e", "_law_lot", "_law_every", "_law_pairs_here", "_law_bad", "_law_at"]) (sc := C8.fnScope st_law) (by decide +kernel)) (fun _ _ _ _ _ => (pg_name (i := 18) sc_law.nd rfl (.inl rfl))) (fun _ _ _ _ _ => pts_nil) (fun _ _ _ _ _ => (pe_tup (pa_cons (pe_op op_fdivN (pv 18) (pv 7)) (pa_cons (pe_op op_sub (pv 18) (pe_op op_mul (pe_op op_fdivN (pv 18) (pv 7)) (pv 7))) pa_nil))))) pa_nil))) (blkOk_by (own := [("_law_mine", 11), ("_law_its", 12)]) (N := ["_law_script", "_law_row", "_law_web_here", "_law_one", "_law_other", "_law_same", "_law_delay", "_law_many", "_law_near_here", "_law_least", "_law_worst", "_law_mine", "_law_its", "e", "_law_lot", "_law_every", "_law_pairs_here", "_law_bad", "_law_at"]) (sc := C8.fnScope st_law) (by decide +kernel)) (fun _ _ _ _ _ => (pg_tup rfl (pgs_cons (pg_name (i := 11) sc_law.nd rfl (.inl rfl)) (pgs_cons (pg_name (i := 12) sc_law.nd rfl (.inl rfl)) pgs_nil)))) (fun _ _ _ _ _ => pts_one (pt_cmpR op_ne (pv 11) (pv 12) (nomark _))) (fun _ _ _ _ _ => (pe_tup (pa_cons (pv 11) (pa_cons (pv 12) pa_nil)))))))
    (pss_cons (ps_if (pt_cmpR op_ne (C8.pe_c c_shows_barring_lot hr (by decide) (by rfl) (pa_cons (pv 2) (pa_cons (pv 3) (pa_cons (pv 4) (pa_cons (pv 6) (pa_cons (pv 15) pa_nil)))))) (C8.pe_c c_law_bars hr (by decide) (by rfl) (pa_cons (pv 2) (pa_cons (pv 3) (pa_cons (pv 4) (pa_cons (pv 6) (pa_cons (pv 15) pa_nil)))))) (nomark _)) 
      (pss_one (ps_ret pe_bl)) pss_nil)
    (pss_one (ps_ret (pe_cmpR op_eq (C8.pe_c c_shows_barring_lot hr (by decide) (by rfl) (pa_cons (pv 2) (pa_cons (pv 3) (pa_cons (pv 4) (pa_cons (pv 6) (pa_cons pe_non pa_nil)))))) (pe_cmpR op_le (pv 9) (pv 6) (nomark _)) (nomark _)))))))))))))))))))), ?_⟩
    refine ⟨_, rfl, by show 4 ≤ sizeLine; decide, fun a na => ?_⟩
    have s1 : Sm H (upd H a (.lst [.ref sa, .int 0, .int 1852, .int 0])) := Sm.new na
    have rw1 : Rw K sa ns a (upd H a (.lst [.ref sa, .int 0, .int 1852, .int 0])) := ⟨hS.imp (fun z => ⟨(rd_ne z na).symm, rd_sm z s1⟩) id, 0, 1852, 0, upd_same, by omega, by omega⟩
    have hT1 := s1.tbs hT
    generalize upd H a (.lst [.ref sa, .int 0, .int 1852, .int 0]) = H1 at rw1 hT1 ⊢
    refine ⟨_, rfl, a, sa, ns, rfl, rw1, fun H2 p W dw2 hW2 ok => ?_⟩
    refine ⟨_, rfl, _, rfl, _, rfl, a, sa, ns, 4, rfl, by omega, by omega, dw2.rw_, fun H3 v3 dw3 _ => ⟨_, 0, rfl, rfl, a, sa, ns, .ref p, W, _, rfl, dw3.rw_, hW2.mono (dw3.tk dw2.rw_), ok, fun H4 tp x y same dw4 htp hx hy hne hal => ?_⟩⟩
    refine ⟨tp, _, rfl, SqT.of htp, rfl, _, _, rfl, _, _, rfl, _, _, rfl, rfl, ?_⟩
    have dw24 := dw3.trans dw4
    have hW4 := hW2.mono (dw24.tk dw2.rw_)
    have dw14 := dw2.trans dw24
    refine ⟨_, rfl, a, sa, ns, 4, rfl, by omega, by omega, dw14.rw_, fun H5 d dw5 hd => ?_⟩
    have dw15 := dw14.trans dw5
    have hW5 := hW4.mono (dw5.tk dw14.rw_)
    obtain ⟨wa, wvs, ewa, hwa, pw⟩ := id hW5
    cases ewa
    have hwl := pw.length
    refine ⟨_, rfl, p, wvs, rfl, .inr (SqT.of hwa), by show 2 ≤ sizeLine; decide, fun t2 nt2 => ⟨t2, _, rfl, SqT.of upd_same, rfl, _, _, rfl, _, _, rfl, rfl, ?_⟩⟩
    have s6 : Sm H5 (upd H5 t2 (.tup [nI d, .int (wvs.length : Nat)])) := Sm.new nt2
    have dw16 := dw15.sm s6
    have hW6 := hW5.mono s6.tk
    generalize upd H5 t2 (.tup [nI d, .int (wvs.length : Nat)]) = H6 at dw16 hW6 ⊢
    have hT6 := dw16.sx.tbs hT1
    have n2 := ok.n2
    have n7 := ok.n7
    -- near, least
    refine ⟨_, rfl, same, rfl, ?_⟩
    by_cases hs : same = true
    case' pos =>
      have al : Alike W x y := hal.mp hs
      refine ifT hs ⟨_, rfl, _, rfl, _, rfl, .ref p, W, x, y, rfl, hW6, ok, hx, hy, al, fun H7 np ks s7 nnp ln => ⟨_, rfl, np, encR ks, rfl, ln.at_, fun ml nml => ⟨ml, lnI ks, rfl, SqL.of (by rw [upd_same, ln_map]), ln.pos, fun m hm hl => ?_⟩⟩⟩
      have em := ln.min_ hm hl
      rw [← ldl_yes al] at em
      have s8 : Sm H7 (upd H7 ml (.lst ((encR ks).map fun kv => kV kv.1))) := Sm.new nml
      have nrZ : (same = true ∧ ∃ ks2, LN (upd H7 ml (.lst ((encR ks).map fun kv => kV kv.1))) W x y np ks2) ∨ (same = false ∧ ¬ Alike W x y) := .inl ⟨hs, ks, s8.at_ _ _ rfl ln.at_, ln.nd, ln.nr, ln.keys⟩
      have sm68 : Sm H6 (upd H7 ml (.lst ((encR ks).map fun kv => kV kv.1))) := s7.trans s8
      clear s8 ln hm hl
      generalize upd H7 ml (.lst ((encR ks).map fun kv => kV kv.1)) = HZ at nrZ sm68 ⊢
      subst em
    case' neg =>
      have hs2 : same = false := by cases same with | false => rfl | true => exact absurd rfl hs
      have nal : ¬ Alike W x y := fun z => hs (hal.mpr z)
      refine ifF hs2 fun np nnp => ⟨upd_same, [(Sum.inl 0, .int 0)], rfl, by show 1 ≤ 15; decide, _, rfl, np, _, rfl, upd_same, fun ml nml => ⟨ml, [0], rfl, SqL.of (by rw [upd_same]; rfl), by decide, fun m hm hl => ?_⟩⟩
      have em : m = ((ldl W x y : Nat) : Int) := by rw [List.mem_singleton.mp hm, ldl_no nal]; rfl
      have nrZ : (same = true ∧ ∃ ks, LN (upd (upd (upd H6 np (.dK [])) np (.dK (mergeK [] [(Sum.inl 0, .int 0)]))) ml (.lst ((mergeK [] [((Sum.inl 0 : Key), V.int 0)]).map fun kv => kV kv.1))) W x y np ks) ∨ (same = false ∧ ¬ Alike W x y) := .inr ⟨hs2, nal⟩
      have sm68 : Sm H6 (upd (upd (upd H6 np (.dK [])) np (.dK (mergeK [] [(Sum.inl 0, .int 0)]))) ml (.lst ((mergeK [] [((Sum.inl 0 : Key), V.int 0)]).map fun kv => kV kv.1))) := ((Sm.new nnp).mut nnp).add nml
      generalize upd (upd (upd H6 np (.dK [])) np (.dK (mergeK [] [(Sum.inl 0, .int 0)]))) ml (.lst ((mergeK [] [((Sum.inl 0 : Key), V.int 0)]).map fun kv => kV kv.1)) = HZ at nrZ sm68 ⊢
      clear hm hl
      subst em
    all_goals
      have dw8 := dw16.sm sm68
      have hW8 := hW6.mono sm68.tk
      have hT8 := sm68.tbs hT6
      refine ⟨_, rfl, _, rfl, _, rfl, .ref p, W, x, y, rfl, hW8, ok, hT8, hx, hy, hne, fun H9 s9 => ⟨_, rfl, _, rfl, _, rfl, _, rfl, .ref p, W, x, y, d, rfl, hW8.mono s9.tk, ok, s9.tbs hT8, hx, hy, hne, by omega, fun H10 s10 => ⟨by show 2 ≤ sizeLine; decide, fun l1 nl1 => ⟨_, rfl, _, rfl, _, rfl, _, _, rfl, rfl, by show 2 ≤ sizeLine; decide, fun l2 nl2 => ⟨_, _, rfl, .inr ⟨l1, l2, _, _, rfl, rfl, .inl ⟨(Sm.new nl2).at_ l1 _ rfl upd_same, upd_same⟩, .cons (.inl (.inl ⟨_, rfl, rfl⟩)) (.cons (.inl (.inr ⟨_, rfl, rfl⟩)) .nil), by show 2 ≤ 200; decide⟩, fun H11 s11 => ⟨true, rfl, ifF rfl ?_⟩⟩⟩⟩⟩⟩
      have sm811 : Sm HZ H11 := (((s9.trans s10).add nl1).add nl2).trans s11
      clear s9 s10 s11 nl1 nl2
      -- the worst delay
      refine ⟨_, rfl, _, rfl, by omega, by omega, for_rg (n := wvs.length) (fun i σ5 H5 => ∃ (m : Nat) (x11 x12 : Option V), σ5 = [some (.ref sa), some (.ref a), some (.ref p), some (nI x), some (nI y), some (.bl same), some (nI d), some (.int (wvs.length : Nat)), some (.ref np), some (nI (ldl W x y)), some (nI m), x11, x12, none, none, none, none, none, none] ∧ WI W i 0 m ∧ Sm HZ H5)
        ⟨0, _, _, rfl, ⟨fun k l hl hk => absurd hk (by omega), .inl rfl⟩, sm811⟩ (fun i σ5 H5 hi h => ?_) (fun σ5 H5 h => ?_)⟩
      · obtain ⟨m, x11, x12, rfl, wi, s5⟩ := h
        refine ⟨_, rfl, _, rfl, by omega, by omega, for_rg (n := i) (fun j σ6 H6' => ∃ (m : Nat) (x12 : Option V), σ6 = [some (.ref sa), some (.ref a), some (.ref p), some (nI x), some (nI y), some (.bl same), some (nI d), some (.int (wvs.length : Nat)), some (.ref np), some (nI (ldl W x y)), some (nI m), some (nI i), x12, none, none, none, none, none, none] ∧ WI W i j m ∧ Sm HZ H6')
          ⟨m, _, rfl, wi, s5⟩ (fun j σ6 H6' hj h => ?_) (fun σ6 H6' h => ?_)⟩
        · obtain ⟨m, x12, rfl, wi, s6⟩ := h
          have hi2 : i < W.length := by omega
          refine ⟨_, rfl, _, rfl, by show 2 ≤ sizeLine; decide, fun tq ntq => ?_⟩
          have s7 : Sm HZ (upd H6' tq (.tup [nI i, nI j])) := s6.add ntq
          refine ⟨_, rfl, .ref p, W, rfl, hW8.mono s7.tk, ok, fun H8 uq F s8 nuq huq hF => ⟨uq, _, rfl, DGet.p (p := (i, j)) huq ⟨tq, rfl, s8.tk _ _ upd_same⟩, _, rfl, ?_⟩⟩
          have s78 := s7.trans s8
          by_cases hin : (i, j) ∈ F
          · rw [encU_yes hin]
            have nal2 := (hF i j hi2 (by omega)).mp hin
            refine iteF ⟨m, _, rfl, ?_, s78⟩
            have z := wi.step hi2 hj
            rwa [ldl_no nal2, Nat.max_eq_left (Nat.zero_le _)] at z
          · rw [encU_no hin]
            have al2 : Alike W i j := Classical.byContradiction fun z => hin ((hF i j hi2 (by omega)).mpr z)
            refine iteT ⟨_, rfl, _, rfl, _, rfl, _, rfl, .ref p, W, i, j, rfl, hW8.mono s78.tk, ok, hi2, by omega, al2, fun H9 nq ks s9 nnq ln => ⟨nq, encR ks, rfl, ln.at_, fun ml nml => ⟨ml, lnI ks, rfl, SqL.of (by rw [upd_same, ln_map]), ln.pos, fun mm hm hl => ⟨_, _, rfl, ?_⟩⟩⟩⟩
            have em := ln.min_ hm hl
            rw [← ldl_yes al2] at em
            subst em
            exact ⟨max m (ldl W i j), _, by rw [← max_e]; rfl, wi.step hi2 hj, (s78.trans s9).add nml⟩
        · obtain ⟨m, x12, rfl, wi, s6⟩ := h
          exact ⟨m, _, _, rfl, wi.row, s6⟩
      · obtain ⟨m, x11, x12, rfl, wi, s5⟩ := h
        have wst : Wst W m := by rw [hwl] at wi; exact wi.wst n2
        refine ⟨_, rfl, .ref p, W, rfl, hW8.mono s5.tk, ok, s5.tbs hT8, fun H9 m2 s9 wst2 => ?_⟩
        obtain rfl := wst2.uniq wst
        refine ⟨_, rfl, _, _, rfl, .inl (.inl ⟨_, rfl, rfl⟩), fun HA sA => ⟨true, rfl, ifF rfl ?_⟩⟩
        have s8A := (s5.trans s9).trans sA
        have hWA := hW8.mono s8A.tk
        have hTA := s8A.tbs hT8
        have dwA := dw8.sm s8A
        clear s5 s9 sA wi
        refine ⟨_, rfl, same, rfl, ?_⟩
        rcases nrZ with ⟨hs', ks, ln⟩ | ⟨hs', nal'⟩
        · try exact absurd hs' hs
          all_goals
            have lnA : LN HA W x y np ks := ⟨s8A.at_ _ _ rfl ln.at_, ln.nd, ln.nr, ln.keys⟩
            refine ifT hs' ⟨_, rfl, _, rfl, _, rfl, _, rfl, _, rfl, _, rfl, a, sa, np, ns, .ref p, W, x, y, ks, by rw [← ldl_yes (hal.mp hs')]; rfl, dwA.rw_, hWA, ok, hTA, hx, hy, hne, hal.mp hs', lnA, fun HB dwB => ⟨true, rfl, ifF rfl ?_⟩⟩
            have hWB := hWA.mono (dwB.tk dwA.rw_)
            have hTB := dwB.sx.tbs hTA
            refine ⟨_, rfl, _, rfl, _, rfl, _, rfl, .ref p, W, x, y, d, rfl, hWB, ok, hTB, hx, hy, hne, by omega, fun hle HC sC => ?_, fun hlt HC lp ll sC nlp hll asc hmem => ?_⟩
            · have hWC := hWB.mono sC.tk
              have hTC := sC.tbs hTB
              have hb : decide (((ldl W x y : Nat) : Int) ≤ (d : Int)) = true := decide_eq_true (by omega)
              refine ⟨_, rfl, rfl, _, rfl, _, rfl, _, _, rfl, rfl, rfl, _, rfl, ifF (by show (!decide (V.bl _ = V.bl (decide (((ldl W x y : Nat) : Int) ≤ (d : Int))))) = false; rw [hb]; rfl) ?_⟩
              refine ⟨_, rfl, _, rfl, _, rfl, _, rfl, _, rfl, .ref p, .non, W, x, y, d, rfl, hWC, ok, hTC, hx, hy, hne, by omega, .inl ⟨rfl, fun HD sD => ⟨_, true, rfl, rfl, _, rfl, ifF (by rw [hb]; rfl) ?_⟩⟩⟩
              refine ⟨_, rfl, rfl, _, rfl, ifF rfl ?_⟩
              have hWT := hWC.mono sD.tk
              have hTT := sD.tbs hTC
              have hlst : decide (((ldl W x y : Nat) : Int) ≤ (d : Int)) = decide (((ldl W x y : Nat) : Int) ≤ (d : Int)) := rfl
              generalize HD = HT at hWT hTT ⊢
              have emm : ((wvs.length : Int) * (wvs.length : Int)).toNat = W.length * W.length := by
                rw [hwl]
                have e : ((W.length : Int) * (W.length : Int)) = ((W.length * W.length : Nat) : Int) := (Int.natCast_mul _ _).symm
                rw [e]; rfl
              have hmm : ((wvs.length : Int) * (wvs.length : Int)) ≤ 49 := by
                rw [hwl]
                have e : ((W.length : Int) * (W.length : Int)) = ((W.length * W.length : Nat) : Int) := (Int.natCast_mul _ _).symm
                rw [e]
                have : W.length * W.length ≤ 7 * 7 := Nat.mul_le_mul n7 n7
                omega
              have hm0 : 0 ≤ ((wvs.length : Int) * (wvs.length : Int)) := Int.mul_nonneg (by omega) (by omega)
              have hW49 : W.length * W.length ≤ 49 := by omega
              refine ⟨_, rfl, _, rfl, _, _, rfl, rfl, .inl ⟨by omega, by omega⟩, _, rfl, by omega, by omega, fun D nD => lc_it (walk_rg (n := ((wvs.length : Int) * (wvs.length : Int)).toNat)) (fun i Hi => ∃ vs, Hi D = some (.lst vs) ∧ Paired (IsP Hi) vs (allP W.length i) ∧ Sm HT Hi) ⟨[], upd_same, .nil, Sm.new nD⟩ (fun _ _ _ _ => trivial) (fun i x Hk Hi hi h hY => ?_) (fun Hi h => ?_)⟩
              · obtain ⟨vs, hD, pv, sk⟩ := h
                obtain ⟨rfl, rfl⟩ := hY
                rw [emm] at hi
                have hvl := pv.length
                rw [allP_len] at hvl
                have e1 : V.int ((i : Int).fdiv (wvs.length : Int)) = nI (i / W.length) := by rw [hwl]; exact congrArg V.int (fdivE i W.length)
                have e2 : V.int ((i : Int) - (i : Int).fdiv (wvs.length : Int) * (wvs.length : Int)) = nI (i - i / W.length * W.length) := by
                  rw [hwl]
                  exact congrArg V.int (fsubE i W.length)
                refine ⟨rfl, r_yes ⟨_, rfl, _, rfl, _, _, rfl, rfl, ⟨by omega, by omega⟩, _, rfl, _, rfl, _, rfl, _, _, rfl, rfl, ⟨by omega, by omega⟩, _, rfl, _, _, rfl, rfl, .inr ⟨by omega, by omega⟩, _, _, rfl, rfl, by show 2 ≤ sizeLine; decide, fun u nu => ?_⟩⟩
                have hDu := (Sm.new (o := .tup [V.int ((i : Int).fdiv (wvs.length : Int)), V.int ((i : Int) - (i : Int).fdiv (wvs.length : Int) * (wvs.length : Int))]) nu).at_ D _ rfl hD
                refine ⟨vs, hDu, small1000 (by omega), vs ++ [.ref u], upd_same, ?_, (sk.add nu).mut nD⟩
                have tku : Tk Hi (upd (upd Hi u (.tup [V.int ((i : Int).fdiv (wvs.length : Int)), V.int ((i : Int) - (i : Int).fdiv (wvs.length : Int) * (wvs.length : Int))])) D (.lst (vs ++ [.ref u]))) := (Tk.new nu).trans (Tk.lst hDu)
                rw [allP_succ]
                exact PSnoc (L2.Paired.mapP pv fun _ _ z => z.mono tku) ⟨u, rfl, Tk.lst hDu _ _ (by rw [upd_same, e1, e2])⟩
              · obtain ⟨vs, hD, pv, si⟩ := h
                rw [emm] at pv
                obtain ⟨sf1, sf2⟩ := sortP pv (allP_nd _ _)
                refine ⟨D, vs, kOf Hi, rfl, SqL.of hD, sf1, fun ys sp srt stb nsp => ?_⟩
                obtain ⟨qs, pq, perm, ascq⟩ := sf2 ys sp srt stb nsp
                have s5 : Sm HT (upd Hi sp (.lst ys)) := si.add nsp
                have hsp : upd Hi sp (.lst ys) sp = some (.lst ys) := upd_same
                generalize upd Hi sp (.lst ys) = H5 at pq s5 hsp ⊢
                have hyl := pq.length
                have hql : qs.length = W.length * W.length := by rw [perm.length_eq, allP_len]
                refine ⟨sp, rfl, ⟨_, SqL.of hsp⟩, fun D2 nD2 => lc_list (xs := ys) (fun j Hj => ∃ rv, Hj D2 = some (.lst rv) ∧ Paired (IsP Hj) rv ((qs.take j).filter fun q => decide (q.1 ≠ q.2)) ∧ Sm H5 Hj) ⟨[], upd_same, .nil, Sm.new nD2⟩ (fun j Hj _ h => by obtain ⟨_, _, _, h⟩ := h; exact SqL.of (h.at_ sp _ rfl hsp)) (fun j v Hj hv h => ?_) (fun Hj h => ?_)⟩
                · obtain ⟨rv, hD2, pr, sj⟩ := h
                  obtain ⟨⟨u1, u2⟩, eu, hu⟩ := pget1 pq hv
                  have hj := lt_of_get eu
                  have hrl : rv.length ≤ 49 := by
                    have z := List.length_filter_le (fun q : Nat × Nat => decide (q.1 ≠ q.2)) (qs.take j)
                    rw [List.length_take] at z
                    have z2 := pr.length
                    omega
                  have etake : qs.take (j + 1) = qs.take j ++ [(u1, u2)] := by rw [List.take_add_one, eu]; rfl
                  refine r_un2 (hu.mono sj.tk) ⟨rfl, _, rfl, _, rfl, rfl, _, rfl, ?_⟩
                  by_cases e : u1 = u2
                  · refine ifF (ne_no e) ⟨rv, hD2, ?_, sj⟩
                    rw [etake, List.filter_append, List.filter_cons_of_neg (by simpa using e), List.filter_nil, List.append_nil]
                    exact pr
                  · refine ifT (ne_yes e) ⟨_, rfl, _, rfl, by show 2 ≤ sizeLine; decide, fun t nt => ?_⟩
                    have hD3 := (Sm.new (o := .tup [nI u1, nI u2]) nt).at_ D2 _ rfl hD2
                    have tkt : Tk Hj (upd (upd Hj t (.tup [nI u1, nI u2])) D2 (.lst (rv ++ [.ref t]))) := (Tk.new nt).trans (Tk.lst hD3)
                    refine ⟨rv, hD3, small1000 (by omega), rv ++ [.ref t], upd_same, ?_, (sj.add nt).mut nD2⟩
                    rw [etake, List.filter_append, List.filter_cons_of_pos (by simpa using e), List.filter_nil]
                    exact PSnoc (L2.Paired.mapP pr fun _ _ z => z.mono tkt) ⟨t, rfl, Tk.lst hD3 _ _ upd_same⟩
                · obtain ⟨rv, hD2, pr, sj⟩ := h
                  rw [hyl, List.take_length] at pr
                  refine .inl ⟨D2, rv, rfl, SqL.of hD2, fun tq ntq => ?_⟩
                  have s6 : Sm HT (upd Hj tq (.tup rv)) := (s5.trans sj).add ntq
                  have hev : IsPs (upd Hj tq (.tup rv)) (.ref tq) (qs.filter fun q => decide (q.1 ≠ q.2)) := ⟨tq, rv, rfl, upd_same, L2.Paired.mapP pr fun _ _ z => z.mono (Tk.new ntq)⟩
                  generalize upd Hj tq (.tup rv) = H6 at s6 hev ⊢
                  have hevl : (qs.filter fun q => decide (q.1 ≠ q.2)).length ≤ 200 := by
                    have z := List.length_filter_le (fun q : Nat × Nat => decide (q.1 ≠ q.2)) qs
                    omega
                  have hevt : ∀ q ∈ qs.filter fun q => decide (q.1 ≠ q.2), q.1 < W.length ∧ q.2 < W.length := fun q hq => allP_lt (perm.mem_iff.mp (List.mem_filter.mp hq).1)
                  have heva : Asc (qs.filter fun q => decide (q.1 ≠ q.2)) := List.Pairwise.filter _ ascq
                  generalize (qs.filter fun q => decide (q.1 ≠ q.2)) = L at hev hevl hevt heva
                  refine ⟨_, rfl, _, rfl, _, rfl, _, rfl, _, rfl, .ref p, .ref tq, W, x, y, d, rfl, hWT.mono s6.tk, ok, s6.tbs hTT, hx, hy, hne, by omega, .inr (.inl ⟨L, hev, hevt, hevl, fun H7 r s7 r1 r2 => ?_⟩)⟩
                  have s67 := s6.trans s7
                  refine ⟨_, rfl, _, rfl, _, rfl, _, rfl, _, rfl, .ref p, .ref tq, W, x, y, d, L, rfl, hWT.mono s67.tk, ok, hev.mono s7.tk, hevt, fun H8 r' s8 r1' r2' => ?_⟩
                  have er : r = r' := by
                    cases r with
                    | true => exact (r2' (r1 rfl).2).symm
                    | false => cases r' with
                      | false => rfl
                      | true => exact r2 heva (r1' rfl)
                  subst er
                  have s68 := s67.trans s8
                  refine ⟨rfl, _, rfl, ifF (by rw [decide_eq_true rfl]; rfl) ?_⟩
                  refine ⟨_, rfl, _, rfl, _, rfl, _, rfl, .ref p, .non, W, x, y, d, rfl, hWT.mono s68.tk, ok, s68.tbs hTT, hx, hy, hne, by omega, .inl ⟨rfl, fun H9 s9 => ⟨_, rfl, _, rfl, _, _, rfl, rfl, rfl, ?_⟩⟩⟩
                  exact Eq.mpr (congrArg (fun b => Q (V.bl b) H9) (decide_eq_true (congrArg V.bl hlst))) (q H9)
            · skip
              have hWC := hWB.mono sC.tk
              have hTC := sC.tbs hTB
              have hb : decide (((ldl W x y : Nat) : Int) ≤ (d : Int)) = false := decide_eq_false (by omega)
              have al : Alike W x y := hal.mp hs'
              have hlot : ∀ q ∈ ll, q.1 < W.length ∧ q.2 < W.length := fun q hq => rp_lt ok hx hy ((hmem q).mp hq)
              have hbars : Bars W x y d ll := bars_all al (by rw [← ldl_yes al]; exact hlt) hmem
              have hl49 : ll.length ≤ 49 := by
                have z := nd_le ll (sq W.length) (asc.imp fun {a b} h e => by subst e; omega) fun q hq => mem_sq.mpr (hlot q hq)
                rw [len_sq] at z
                exact Nat.le_trans z (Nat.mul_le_mul n7 n7)
              obtain ⟨lp', lvs, elp, hlp, plv⟩ := id hll
              cases elp
              have hlvl := plv.length
              refine ⟨_, rfl, rfl, _, rfl, _, rfl, _, _, rfl, rfl, rfl, _, rfl, ifF (by show (!decide (V.bl _ = V.bl (decide (((ldl W x y : Nat) : Int) ≤ (d : Int))))) = false; rw [hb]; rfl) ?_⟩
              refine ⟨_, rfl, _, rfl, _, rfl, _, rfl, _, rfl, .ref p, .ref lp, W, x, y, d, rfl, hWC, ok, hTC, hx, hy, hne, by omega, .inr (.inl ⟨ll, hll, hlot, by omega, fun HD r sD r1 r2 => ?_⟩)⟩
              obtain rfl : r = true := r2 asc hbars
              refine ⟨_, true, rfl, rfl, _, rfl, ifF rfl ?_⟩
              refine ⟨_, rfl, rfl, _, rfl, ifT rfl ?_⟩
              refine ⟨Nat.zero_le _, fun le nle => ?_⟩
              have sE0 : Sm HC (upd HD le (.lst [])) := sD.add nle
              have hle : upd HD le (.lst []) le = some (.lst []) := upd_same
              generalize upd HD le (.lst []) = HE at sE0 hle ⊢
              refine ⟨_, rfl, _, rfl, _, rfl, .ref p, W, x, y, rfl, hWC.mono sE0.tk, ok, hx, hy, al, fun HF pl lls Ls sF npl hpl pLs lay hL50 => ?_⟩
              have sCF := sE0.trans sF
              have hleF := sF.at_ le _ rfl hle
              have hlsl := pLs.length
              refine ⟨pl, rfl, ⟨_, SqL.of hpl⟩, for_list (xs := lls) (fun i σ6 H6' => ∃ (ea : Addr) (evs : List V) (z16 : Option V), σ6 = [some (.ref sa), some (.ref a), some (.ref p), some (nI x), some (nI y), some (.bl same), some (nI d), some (.int (wvs.length : Nat)), some (.ref np), some (nI (ldl W x y)), some (nI m2), x11, x12, none, some (.ref lp), some (.ref ea), z16, none, none] ∧ H6' ea = some (.lst evs) ∧ Paired (IsP H6') evs (Ls.take i).flatten ∧ Sm HF H6')
                ⟨le, [], _, rfl, hleF, by rw [List.take_zero]; exact .nil, Sm.refl HF⟩ (fun i σ6 H6' _ h => by obtain ⟨_, _, _, _, _, _, h⟩ := h; exact SqL.of (h.at_ pl _ rfl hpl)) (fun i v σ6 H6' hv h => ?_) (fun σ6 H6' h => ?_)⟩
              · obtain ⟨ea, evs, z16, rfl, hea, pe, s6⟩ := h
                obtain ⟨l, el, hl⟩ := pget1 pLs hv
                obtain ⟨ba, bvs, rfl, hba, pb⟩ := hl
                have hi := lt_of_get el
                have h1 := cat_le ok hx hy lay.lay (n := i + 1) (by omega)
                rw [cat_succ el, List.length_append] at h1
                have h2 := pe.length
                have h3 := pb.length
                refine ⟨_, rfl, _, rfl, ea, ba, evs, bvs, rfl, rfl, hea, s6.at_ ba _ rfl hba, Nat.le_of_lt (small1000 (by omega)), fun t nt => ⟨t, evs ++ bvs, _, rfl, upd_same, ?_, s6.add nt⟩⟩
                rw [cat_succ el]
                exact PApp (L2.Paired.mapP pe fun _ _ z => z.mono (Tk.new nt)) (L2.Paired.mapP pb fun _ _ z => z.mono (s6.add nt).tk)
              · obtain ⟨ea, evs, z16, rfl, hea, pe, s6⟩ := h
                rw [hlsl] at pe
                have end_ := cat_nd lay.lay Ls.length (Nat.le_refl _)
                obtain ⟨sf1, sf2⟩ := sortP pe end_
                refine ⟨_, rfl, _, rfl, ea, evs, kOf H6', rfl, SqL.of hea, sf1, fun ys sp srt stb nsp => ?_⟩
                obtain ⟨qs, pq, perm, ascq⟩ := sf2 ys sp srt stb nsp
                have eqs : qs = ll := asc_ext ascq asc fun z => by rw [perm.mem_iff, cat_all lay.lay lay.all, hmem]
                subst eqs
                refine .inl ⟨sp, ys, rfl, SqL.of upd_same, fun tq ntq => ?_⟩
                have s7 : Sm HC (upd (upd H6' sp (.lst ys)) tq (.tup ys)) := ((sCF.trans s6).add nsp).add ntq
                have pq7 : Paired (IsP (upd (upd H6' sp (.lst ys)) tq (.tup ys))) ys qs := L2.Paired.mapP pq fun _ _ z => z.mono (Tk.new ntq)
                have htq : upd (upd H6' sp (.lst ys)) tq (.tup ys) tq = some (.tup ys) := upd_same
                generalize upd (upd H6' sp (.lst ys)) tq (.tup ys) = H7 at s7 pq7 htq ⊢
                refine ⟨_, _, rfl, .inr ⟨lp, tq, lvs, ys, rfl, rfl, .inr ⟨s7.tk _ _ hlp, htq⟩, sa_pairs (L2.Paired.mapP plv fun _ _ z => z.mono s7.tk) pq7, by omega⟩, fun H8 s8 => ⟨true, rfl, ifF rfl ?_⟩⟩
                have sC8 := s7.trans s8
                refine ⟨_, rfl, _, rfl, _, rfl, _, rfl, _, rfl, .ref p, .ref lp, W, x, y, d, qs, rfl, hWC.mono sC8.tk, ok, hll.mono sC8.tk, hlot, fun H9 r s9 _ r2' => ?_⟩
                obtain rfl : r = true := r2' hbars
                refine ⟨true, rfl, ifF rfl ?_⟩
                have sC9 := sC8.trans s9
                -- lot[1:]
                refine ⟨_, rfl, _, rfl, _, rfl, _, rfl, _, rfl, 1, rfl, ?_⟩
                unfold tNoPart
                refine r_tail (sC9.tk _ _ hlp) fun tc HG sG htc => ?_
                have sCG := sC9.trans sG
                have htl : IsPs HG (.ref tc) qs.tail := ⟨tc, _, rfl, htc, PTail (L2.Paired.mapP plv fun _ _ z => z.mono sCG.tk)⟩
                have htlt : ∀ q ∈ qs.tail, q.1 < W.length ∧ q.2 < W.length := fun q hq => hlot q (List.mem_of_mem_tail hq)
                have htla : Asc qs.tail := by
                  cases qs with
                  | nil => exact List.Pairwise.nil
                  | cons z r => exact (List.pairwise_cons.mp asc).2
                have htll : qs.tail.length ≤ 49 := by rw [List.length_tail]; omega
                refine ⟨.ref p, .ref tc, W, x, y, d, rfl, hWC.mono sCG.tk, ok, sCG.tbs hTC, hx, hy, hne, by omega, .inr (.inl ⟨qs.tail, htl, htlt, by omega, fun HI r sI r1 r2 => ?_⟩)⟩
                have sCI := sCG.trans sI
                refine ⟨_, rfl, _, rfl, _, rfl, _, rfl, _, rfl, 1, rfl, ?_⟩
                refine r_tail (sCI.tk _ _ hlp) fun td HJ sJ htd => ?_
                have sCJ := sCI.trans sJ
                have htl2 : IsPs HJ (.ref td) qs.tail := ⟨td, _, rfl, htd, PTail (L2.Paired.mapP plv fun _ _ z => z.mono sCJ.tk)⟩
                refine ⟨.ref p, .ref td, W, x, y, d, qs.tail, rfl, hWC.mono sCJ.tk, ok, htl2, htlt, fun HK r' sK r1' r2' => ?_⟩
                have er : r = r' := by
                  cases r with
                  | true => exact (r2' (r1 rfl).2).symm
                  | false => cases r' with
                    | false => rfl
                    | true => exact r2 htla (r1' rfl)
                subst er
                have sCK := sCJ.trans sK
                refine ⟨rfl, _, rfl, ifF (by rw [decide_eq_true rfl]; rfl) ?_⟩
                -- the bad ones
                have hK := sCK.tk _ _ hlp
                have pK : Paired (IsP HK) lvs qs := L2.Paired.mapP plv fun _ _ z => z.mono sCK.tk
                refine ⟨_, rfl, lp, lvs, rfl, .inr (SqT.of hK), fun l1 nl1 => ?_⟩
                have sa1 : Sm HK (upd HK l1 (.lst lvs)) := Sm.new nl1
                have hl1 : upd HK l1 (.lst lvs) l1 = some (.lst lvs) := upd_same
                generalize upd HK l1 (.lst lvs) = Ha at sa1 hl1 ⊢
                refine ⟨_, rfl, lp, lvs, rfl, SqT.of (sa1.tk _ _ hK), fun t1 nt1 => ?_⟩
                have sa2 : Sm Ha (upd Ha t1 (.tup lvs.reverse)) := Sm.new nt1
                have ht1 : upd Ha t1 (.tup lvs.reverse) t1 = some (.tup lvs.reverse) := upd_same
                generalize upd Ha t1 (.tup lvs.reverse) = Hb at sa2 ht1 ⊢
                have sKb := sa1.trans sa2
                refine ⟨_, rfl, r_catA ht1 (sKb.tk _ _ hK) (by rw [List.length_reverse]; exact Nat.le_of_lt (small1000 (by omega))) fun c1 Hc sa3 _ _ hc1 => ?_⟩
                have sKc := sKb.trans sa3
                refine ⟨_, rfl, _, rfl, by show 2 ≤ sizeLine; decide, fun t2 nt2 => ⟨by show 1 ≤ sizeLine; decide, fun t3 nt3 => ?_⟩⟩
                have ht2 := (Sm.new (o := .tup [.ref t2]) nt3).tk t2 _ upd_same
                have sa4 : Sm Hc (upd (upd Hc t2 (.tup [.int 0, .int (wvs.length : Nat)])) t3 (.tup [.ref t2])) := (Sm.new nt2).add nt3
                have ht3 : upd (upd Hc t2 (.tup [.int 0, .int (wvs.length : Nat)])) t3 (.tup [.ref t2]) t3 = some (.tup [.ref t2]) := upd_same
                generalize upd (upd Hc t2 (.tup [.int 0, .int (wvs.length : Nat)])) t3 (.tup [.ref t2]) = Hd at sa4 ht2 ht3 ⊢
                have sKd := sKc.trans sa4
                refine r_catA (sKd.tk _ _ hK) ht3 (by show lvs.length + 1 ≤ sizeLine; exact Nat.le_of_lt (small1000 (by omega))) fun c2 He sa5 _ _ hc2 => ?_
                have sKe := sKd.trans sa5
                refine ⟨_, rfl, by show 1 ≤ sizeLine; decide, fun t4 nt4 => ?_⟩
                have sa6 : Sm He (upd He t4 (.tup [.non])) := Sm.new nt4
                have ht4 : upd He t4 (.tup [.non]) t4 = some (.tup [.non]) := upd_same
                generalize upd He t4 (.tup [.non]) = Hf at sa6 ht4 ⊢
                have sKf := sKe.trans sa6
                refine r_catA (sKf.tk _ _ hK) ht4 (by show lvs.length + 1 ≤ sizeLine; exact Nat.le_of_lt (small1000 (by omega))) fun c3 Hg sa7 _ _ hc3 => ?_
                have sKg := sKf.trans sa7
                refine ⟨Nat.zero_le _, fun t5 nt5 => fun d6 nd6 => ⟨by show 7 ≤ sizeLine; decide, fun lz nlz => ?_⟩⟩
                have sa8 : Sm Hg (upd Hg t5 (.tup [])) := Sm.new nt5
                have ht5 : upd Hg t5 (.tup []) t5 = some (.tup []) := upd_same
                generalize upd Hg t5 (.tup []) = Hh at sa8 ht5 nd6 nlz ⊢
                have sa9 : Sm Hh (upd Hh d6 (.dK [])) := Sm.new nd6
                have hd6 : upd Hh d6 (.dK []) d6 = some (.dK []) := upd_same
                generalize upd Hh d6 (.dK []) = Hi at sa9 hd6 nlz ⊢
                have sb : Sm Hi (upd Hi lz (.lst [.ref l1, .ref c1, .ref c2, .ref c3, .ref t5, .ref d6, .str "0"])) := Sm.new nlz
                have hlz : upd Hi lz (.lst [.ref l1, .ref c1, .ref c2, .ref c3, .ref t5, .ref d6, .str "0"]) lz = some (.lst [.ref l1, .ref c1, .ref c2, .ref c3, .ref t5, .ref d6, .str "0"]) := upd_same
                generalize upd Hi lz (.lst [.ref l1, .ref c1, .ref c2, .ref c3, .ref t5, .ref d6, .str "0"]) = Hj at sb hlz ⊢
                have s9j := sa9.trans sb
                have s8j := sa8.trans s9j
                have s7j := sa7.trans s8j
                have s6j := sa6.trans s7j
                have s5j := sa5.trans s6j
                have s4j := sa4.trans s5j
                have s3j := sa3.trans s4j
                have s2j := sa2.trans s3j
                have sKj := sa1.trans s2j
                have sCj := sCK.trans sKj
                have hWj := hWC.mono sCj.tk
                have hTj := sCj.tbs hTC
                have pj : Paired (IsP Hj) lvs qs := L2.Paired.mapP pK fun _ _ z => z.mono sKj.tk
                have bads : ∀ z ∈ ([.ref l1, .ref c1, .ref c2, .ref c3, .ref t5, .ref d6, .str "0"] : List V), BadV W x y d Hj z := by
                  intro z hz
                  simp only [List.mem_cons, List.not_mem_nil, or_false] at hz
                  rcases hz with rfl | rfl | rfl | rfl | rfl | rfl | rfl
                  · exact .inl (.inl ⟨_, by decide, by decide, .lst (s2j.at_ _ _ rfl hl1)⟩)
                  · refine .inr ⟨qs.reverse ++ qs, ⟨c1, _, rfl, s4j.tk _ _ hc1, PApp (PRev pj) pj⟩, fun q hq => ?_, by rw [List.length_append, List.length_reverse]; omega, fun z => not_asc hbars.own z.1⟩
                    rcases List.mem_append.mp hq with h | h
                    · exact hlot q (List.mem_reverse.mp h)
                    · exact hlot q h
                  · refine .inl (.inr ⟨c2, lvs, qs, .ref t2, rfl, s6j.tk _ _ hc2, pj, hlot, .inr ⟨t2, rfl, ?_⟩⟩)
                    have z := s5j.tk _ _ ht2
                    rw [hwl] at z
                    exact z
                  · exact .inl (.inr ⟨c3, lvs, qs, .non, rfl, s8j.tk _ _ hc3, pj, hlot, .inl rfl⟩)
                  · exact .inr ⟨[], ⟨t5, [], rfl, s9j.tk _ _ ht5, .nil⟩, fun q hq => (by cases hq), Nat.zero_le _, fun z => (by cases z.2.own)⟩
                  · exact .inl (.inl ⟨_, by decide, by decide, .dK (sb.at_ _ _ rfl hd6)⟩)
                  · exact .inl (.inl ⟨_, by decide, by decide, .str _⟩)
                refine ⟨lz, rfl, ⟨_, SqL.of hlz⟩, for_list (xs := [.ref l1, .ref c1, .ref c2, .ref c3, .ref t5, .ref d6, .str "0"]) (fun i σ9 H9' => ∃ (z17 : Option V), σ9 = [some (.ref sa), some (.ref a), some (.ref p), some (nI x), some (nI y), some (.bl same), some (nI d), some (.int (wvs.length : Nat)), some (.ref np), some (nI (ldl W x y)), some (nI m2), x11, x12, none, some (.ref lp), some (.ref ea), z16, z17, none] ∧ Sm Hj H9')
                  ⟨_, rfl, Sm.refl _⟩ (fun i σ9 H9' _ h => by obtain ⟨_, _, h⟩ := h; exact SqL.of (h.at_ lz _ rfl hlz)) (fun i z σ9 H9' hz h => ?_) (fun σ9 HT h => ?_)⟩
                · obtain ⟨z17, rfl, s9'⟩ := h
                  have fin : ∀ HA', Sm H9' HA' → Sm Hj HA' := fun _ s => s9'.trans s
                  refine ⟨_, rfl, _, rfl, _, rfl, _, rfl, _, rfl, .ref p, z, W, x, y, d, rfl, hWj.mono s9'.tk, ok, s9'.tbs hTj, hx, hy, hne, by omega, ?_⟩
                  rcases (bads z (mem_of_get hz)).sm s9' with hb | ⟨ps, hb, hbl, hb2, hn⟩
                  · exact .inr (.inr ⟨hb, fun HA' sA' => ⟨false, false, rfl, rfl, _, rfl, ifF rfl ⟨_, rfl, fin _ sA'⟩⟩⟩)
                  · refine .inr (.inl ⟨ps, hb, hbl, hb2, fun HA' r sA' r1 _ => ?_⟩)
                    obtain rfl : r = false := by
                      cases r with
                      | false => rfl
                      | true => exact absurd (r1 rfl) hn
                    exact ⟨false, false, rfl, rfl, _, rfl, ifF rfl ⟨_, rfl, fin _ sA'⟩⟩
                · obtain ⟨z17, rfl, sT⟩ := h
                  have hWT := hWj.mono sT.tk
                  have hTT := sT.tbs hTj
                  have hlst : decide (((ldl W x y : Nat) : Int) ≤ (d : Int)) = decide (((ldl W x y : Nat) : Int) ≤ (d : Int)) := rfl
                  have emm : ((wvs.length : Int) * (wvs.length : Int)).toNat = W.length * W.length := by
                    rw [hwl]
                    have e : ((W.length : Int) * (W.length : Int)) = ((W.length * W.length : Nat) : Int) := (Int.natCast_mul _ _).symm
                    rw [e]; rfl
                  have hmm : ((wvs.length : Int) * (wvs.length : Int)) ≤ 49 := by
                    rw [hwl]
                    have e : ((W.length : Int) * (W.length : Int)) = ((W.length * W.length : Nat) : Int) := (Int.natCast_mul _ _).symm
                    rw [e]
                    have : W.length * W.length ≤ 7 * 7 := Nat.mul_le_mul n7 n7
                    omega
                  have hm0 : 0 ≤ ((wvs.length : Int) * (wvs.length : Int)) := Int.mul_nonneg (by omega) (by omega)
                  have hW49 : W.length * W.length ≤ 49 := by omega
                  refine ⟨_, rfl, _, rfl, _, _, rfl, rfl, .inl ⟨by omega, by omega⟩, _, rfl, by omega, by omega, fun D nD => lc_it (walk_rg (n := ((wvs.length : Int) * (wvs.length : Int)).toNat)) (fun i Hi => ∃ vs, Hi D = some (.lst vs) ∧ Paired (IsP Hi) vs (allP W.length i) ∧ Sm HT Hi) ⟨[], upd_same, .nil, Sm.new nD⟩ (fun _ _ _ _ => trivial) (fun i x Hk Hi hi h hY => ?_) (fun Hi h => ?_)⟩
                  · obtain ⟨vs, hD, pv, sk⟩ := h
                    obtain ⟨rfl, rfl⟩ := hY
                    rw [emm] at hi
                    have hvl := pv.length
                    rw [allP_len] at hvl
                    have e1 : V.int ((i : Int).fdiv (wvs.length : Int)) = nI (i / W.length) := by rw [hwl]; exact congrArg V.int (fdivE i W.length)
                    have e2 : V.int ((i : Int) - (i : Int).fdiv (wvs.length : Int) * (wvs.length : Int)) = nI (i - i / W.length * W.length) := by
                      rw [hwl]
                      exact congrArg V.int (fsubE i W.length)
                    refine ⟨rfl, r_yes ⟨_, rfl, _, rfl, _, _, rfl, rfl, ⟨by omega, by omega⟩, _, rfl, _, rfl, _, rfl, _, _, rfl, rfl, ⟨by omega, by omega⟩, _, rfl, _, _, rfl, rfl, .inr ⟨by omega, by omega⟩, _, _, rfl, rfl, by show 2 ≤ sizeLine; decide, fun u nu => ?_⟩⟩
                    have hDu := (Sm.new (o := .tup [V.int ((i : Int).fdiv (wvs.length : Int)), V.int ((i : Int) - (i : Int).fdiv (wvs.length : Int) * (wvs.length : Int))]) nu).at_ D _ rfl hD
                    refine ⟨vs, hDu, small1000 (by omega), vs ++ [.ref u], upd_same, ?_, (sk.add nu).mut nD⟩
                    have tku : Tk Hi (upd (upd Hi u (.tup [V.int ((i : Int).fdiv (wvs.length : Int)), V.int ((i : Int) - (i : Int).fdiv (wvs.length : Int) * (wvs.length : Int))])) D (.lst (vs ++ [.ref u]))) := (Tk.new nu).trans (Tk.lst hDu)
                    rw [allP_succ]
                    exact PSnoc (L2.Paired.mapP pv fun _ _ z => z.mono tku) ⟨u, rfl, Tk.lst hDu _ _ (by rw [upd_same, e1, e2])⟩
                  · obtain ⟨vs, hD, pv, si⟩ := h
                    rw [emm] at pv
                    obtain ⟨sf1, sf2⟩ := sortP pv (allP_nd _ _)
                    refine ⟨D, vs, kOf Hi, rfl, SqL.of hD, sf1, fun ys sp srt stb nsp => ?_⟩
                    obtain ⟨qs, pq, perm, ascq⟩ := sf2 ys sp srt stb nsp
                    have s5 : Sm HT (upd Hi sp (.lst ys)) := si.add nsp
                    have hsp : upd Hi sp (.lst ys) sp = some (.lst ys) := upd_same
                    generalize upd Hi sp (.lst ys) = H5 at pq s5 hsp ⊢
                    have hyl := pq.length
                    have hql : qs.length = W.length * W.length := by rw [perm.length_eq, allP_len]
                    refine ⟨sp, rfl, ⟨_, SqL.of hsp⟩, fun D2 nD2 => lc_list (xs := ys) (fun j Hj => ∃ rv, Hj D2 = some (.lst rv) ∧ Paired (IsP Hj) rv ((qs.take j).filter fun q => decide (q.1 ≠ q.2)) ∧ Sm H5 Hj) ⟨[], upd_same, .nil, Sm.new nD2⟩ (fun j Hj _ h => by obtain ⟨_, _, _, h⟩ := h; exact SqL.of (h.at_ sp _ rfl hsp)) (fun j v Hj hv h => ?_) (fun Hj h => ?_)⟩
                    · obtain ⟨rv, hD2, pr, sj⟩ := h
                      obtain ⟨⟨u1, u2⟩, eu, hu⟩ := pget1 pq hv
                      have hj := lt_of_get eu
                      have hrl : rv.length ≤ 49 := by
                        have z := List.length_filter_le (fun q : Nat × Nat => decide (q.1 ≠ q.2)) (qs.take j)
                        rw [List.length_take] at z
                        have z2 := pr.length
                        omega
                      have etake : qs.take (j + 1) = qs.take j ++ [(u1, u2)] := by rw [List.take_add_one, eu]; rfl
                      refine r_un2 (hu.mono sj.tk) ⟨rfl, _, rfl, _, rfl, rfl, _, rfl, ?_⟩
                      by_cases e : u1 = u2
                      · refine ifF (ne_no e) ⟨rv, hD2, ?_, sj⟩
                        rw [etake, List.filter_append, List.filter_cons_of_neg (by simpa using e), List.filter_nil, List.append_nil]
                        exact pr
                      · refine ifT (ne_yes e) ⟨_, rfl, _, rfl, by show 2 ≤ sizeLine; decide, fun t nt => ?_⟩
                        have hD3 := (Sm.new (o := .tup [nI u1, nI u2]) nt).at_ D2 _ rfl hD2
                        have tkt : Tk Hj (upd (upd Hj t (.tup [nI u1, nI u2])) D2 (.lst (rv ++ [.ref t]))) := (Tk.new nt).trans (Tk.lst hD3)
                        refine ⟨rv, hD3, small1000 (by omega), rv ++ [.ref t], upd_same, ?_, (sj.add nt).mut nD2⟩
                        rw [etake, List.filter_append, List.filter_cons_of_pos (by simpa using e), List.filter_nil]
                        exact PSnoc (L2.Paired.mapP pr fun _ _ z => z.mono tkt) ⟨t, rfl, Tk.lst hD3 _ _ upd_same⟩
                    · obtain ⟨rv, hD2, pr, sj⟩ := h
                      rw [hyl, List.take_length] at pr
                      refine .inl ⟨D2, rv, rfl, SqL.of hD2, fun tq ntq => ?_⟩
                      have s6 : Sm HT (upd Hj tq (.tup rv)) := (s5.trans sj).add ntq
                      have hev : IsPs (upd Hj tq (.tup rv)) (.ref tq) (qs.filter fun q => decide (q.1 ≠ q.2)) := ⟨tq, rv, rfl, upd_same, L2.Paired.mapP pr fun _ _ z => z.mono (Tk.new ntq)⟩
                      generalize upd Hj tq (.tup rv) = H6 at s6 hev ⊢
                      have hevl : (qs.filter fun q => decide (q.1 ≠ q.2)).length ≤ 200 := by
                        have z := List.length_filter_le (fun q : Nat × Nat => decide (q.1 ≠ q.2)) qs
                        omega
                      have hevt : ∀ q ∈ qs.filter fun q => decide (q.1 ≠ q.2), q.1 < W.length ∧ q.2 < W.length := fun q hq => allP_lt (perm.mem_iff.mp (List.mem_filter.mp hq).1)
                      have heva : Asc (qs.filter fun q => decide (q.1 ≠ q.2)) := List.Pairwise.filter _ ascq
                      generalize (qs.filter fun q => decide (q.1 ≠ q.2)) = L at hev hevl hevt heva
                      refine ⟨_, rfl, _, rfl, _, rfl, _, rfl, _, rfl, .ref p, .ref tq, W, x, y, d, rfl, hWT.mono s6.tk, ok, s6.tbs hTT, hx, hy, hne, by omega, .inr (.inl ⟨L, hev, hevt, hevl, fun H7 r s7 r1 r2 => ?_⟩)⟩
                      have s67 := s6.trans s7
                      refine ⟨_, rfl, _, rfl, _, rfl, _, rfl, _, rfl, .ref p, .ref tq, W, x, y, d, L, rfl, hWT.mono s67.tk, ok, hev.mono s7.tk, hevt, fun H8 r' s8 r1' r2' => ?_⟩
                      have er : r = r' := by
                        cases r with
                        | true => exact (r2' (r1 rfl).2).symm
                        | false => cases r' with
                          | false => rfl
                          | true => exact r2 heva (r1' rfl)
                      subst er
                      have s68 := s67.trans s8
                      refine ⟨rfl, _, rfl, ifF (by rw [decide_eq_true rfl]; rfl) ?_⟩
                      refine ⟨_, rfl, _, rfl, _, rfl, _, rfl, .ref p, .non, W, x, y, d, rfl, hWT.mono s68.tk, ok, s68.tbs hTT, hx, hy, hne, by omega, .inl ⟨rfl, fun H9 s9 => ⟨_, rfl, _, rfl, _, _, rfl, rfl, rfl, ?_⟩⟩⟩
                      exact Eq.mpr (congrArg (fun b => Q (V.bl b) H9) (decide_eq_true (congrArg V.bl hlst))) (q H9)
        · try exact absurd (hs.symm.trans hs') (by decide)
          all_goals
            refine ifF hs' ⟨_, rfl, _, rfl, _, rfl, .ref p, W, x, y, rfl, hWA, ok, hTA, hx, hy, hne, nal', fun HB sB => ⟨true, T.e, fun _ ea nea => ?_, fun z => (nomatch z)⟩⟩
            have hWB := hWA.mono sB.tk
            have hTB := sB.tbs hTA
            have hl0 : ldl W x y = 0 := ldl_no nal'
            refine ⟨_, rfl, _, rfl, _, rfl, _, rfl, .ref p, W, x, y, d, rfl, hWB, ok, hTB, hx, hy, hne, by omega, fun hle HC sC => ?_, fun hlt => absurd hlt (by omega)⟩
            have hWC := hWB.mono sC.tk
            have hTC := sC.tbs hTB
            have hb0 : decide ((0 : Int) ≤ (d : Int)) = true := decide_eq_true (by omega)
            have hb : decide (((ldl W x y : Nat) : Int) ≤ (d : Int)) = true := decide_eq_true (by omega)
            refine ⟨_, rfl, rfl, _, rfl, _, rfl, _, _, rfl, rfl, rfl, _, rfl, ifF (by show (!decide (V.bl _ = V.bl (decide ((0 : Int) ≤ (d : Int))))) = false; rw [hb0]; rfl) ?_⟩
            refine ⟨_, rfl, _, rfl, _, rfl, _, rfl, _, rfl, .ref p, .non, W, x, y, d, rfl, hWC, ok, hTC, hx, hy, hne, by omega, .inl ⟨rfl, fun HD sD => ⟨_, true, rfl, rfl, _, rfl, ifF (by rw [hb]; rfl) ?_⟩⟩⟩
            refine ⟨_, rfl, rfl, _, rfl, ifF rfl ?_⟩
            have hWT := hWC.mono sD.tk
            have hTT := sD.tbs hTC
            have hlst : decide (((ldl W x y : Nat) : Int) ≤ (d : Int)) = decide ((0 : Int) ≤ (d : Int)) := by rw [hb, hb0]
            generalize HD = HT at hWT hTT ⊢
            have emm : ((wvs.length : Int) * (wvs.length : Int)).toNat = W.length * W.length := by
              rw [hwl]
              have e : ((W.length : Int) * (W.length : Int)) = ((W.length * W.length : Nat) : Int) := (Int.natCast_mul _ _).symm
              rw [e]; rfl
            have hmm : ((wvs.length : Int) * (wvs.length : Int)) ≤ 49 := by
              rw [hwl]
              have e : ((W.length : Int) * (W.length : Int)) = ((W.length * W.length : Nat) : Int) := (Int.natCast_mul _ _).symm
              rw [e]
              have : W.length * W.length ≤ 7 * 7 := Nat.mul_le_mul n7 n7
              omega
            have hm0 : 0 ≤ ((wvs.length : Int) * (wvs.length : Int)) := Int.mul_nonneg (by omega) (by omega)
            have hW49 : W.length * W.length ≤ 49 := by omega
            refine ⟨_, rfl, _, rfl, _, _, rfl, rfl, .inl ⟨by omega, by omega⟩, _, rfl, by omega, by omega, fun D nD => lc_it (walk_rg (n := ((wvs.length : Int) * (wvs.length : Int)).toNat)) (fun i Hi => ∃ vs, Hi D = some (.lst vs) ∧ Paired (IsP Hi) vs (allP W.length i) ∧ Sm HT Hi) ⟨[], upd_same, .nil, Sm.new nD⟩ (fun _ _ _ _ => trivial) (fun i x Hk Hi hi h hY => ?_) (fun Hi h => ?_)⟩
            · obtain ⟨vs, hD, pv, sk⟩ := h
              obtain ⟨rfl, rfl⟩ := hY
              rw [emm] at hi
              have hvl := pv.length
              rw [allP_len] at hvl
              have e1 : V.int ((i : Int).fdiv (wvs.length : Int)) = nI (i / W.length) := by rw [hwl]; exact congrArg V.int (fdivE i W.length)
              have e2 : V.int ((i : Int) - (i : Int).fdiv (wvs.length : Int) * (wvs.length : Int)) = nI (i - i / W.length * W.length) := by
                rw [hwl]
                exact congrArg V.int (fsubE i W.length)
              refine ⟨rfl, r_yes ⟨_, rfl, _, rfl, _, _, rfl, rfl, ⟨by omega, by omega⟩, _, rfl, _, rfl, _, rfl, _, _, rfl, rfl, ⟨by omega, by omega⟩, _, rfl, _, _, rfl, rfl, .inr ⟨by omega, by omega⟩, _, _, rfl, rfl, by show 2 ≤ sizeLine; decide, fun u nu => ?_⟩⟩
              have hDu := (Sm.new (o := .tup [V.int ((i : Int).fdiv (wvs.length : Int)), V.int ((i : Int) - (i : Int).fdiv (wvs.length : Int) * (wvs.length : Int))]) nu).at_ D _ rfl hD
              refine ⟨vs, hDu, small1000 (by omega), vs ++ [.ref u], upd_same, ?_, (sk.add nu).mut nD⟩
              have tku : Tk Hi (upd (upd Hi u (.tup [V.int ((i : Int).fdiv (wvs.length : Int)), V.int ((i : Int) - (i : Int).fdiv (wvs.length : Int) * (wvs.length : Int))])) D (.lst (vs ++ [.ref u]))) := (Tk.new nu).trans (Tk.lst hDu)
              rw [allP_succ]
              exact PSnoc (L2.Paired.mapP pv fun _ _ z => z.mono tku) ⟨u, rfl, Tk.lst hDu _ _ (by rw [upd_same, e1, e2])⟩
            · obtain ⟨vs, hD, pv, si⟩ := h
              rw [emm] at pv
              obtain ⟨sf1, sf2⟩ := sortP pv (allP_nd _ _)
              refine ⟨D, vs, kOf Hi, rfl, SqL.of hD, sf1, fun ys sp srt stb nsp => ?_⟩
              obtain ⟨qs, pq, perm, ascq⟩ := sf2 ys sp srt stb nsp
              have s5 : Sm HT (upd Hi sp (.lst ys)) := si.add nsp
              have hsp : upd Hi sp (.lst ys) sp = some (.lst ys) := upd_same
              generalize upd Hi sp (.lst ys) = H5 at pq s5 hsp ⊢
              have hyl := pq.length
              have hql : qs.length = W.length * W.length := by rw [perm.length_eq, allP_len]
              refine ⟨sp, rfl, ⟨_, SqL.of hsp⟩, fun D2 nD2 => lc_list (xs := ys) (fun j Hj => ∃ rv, Hj D2 = some (.lst rv) ∧ Paired (IsP Hj) rv ((qs.take j).filter fun q => decide (q.1 ≠ q.2)) ∧ Sm H5 Hj) ⟨[], upd_same, .nil, Sm.new nD2⟩ (fun j Hj _ h => by obtain ⟨_, _, _, h⟩ := h; exact SqL.of (h.at_ sp _ rfl hsp)) (fun j v Hj hv h => ?_) (fun Hj h => ?_)⟩
              · obtain ⟨rv, hD2, pr, sj⟩ := h
                obtain ⟨⟨u1, u2⟩, eu, hu⟩ := pget1 pq hv
                have hj := lt_of_get eu
                have hrl : rv.length ≤ 49 := by
                  have z := List.length_filter_le (fun q : Nat × Nat => decide (q.1 ≠ q.2)) (qs.take j)
                  rw [List.length_take] at z
                  have z2 := pr.length
                  omega
                have etake : qs.take (j + 1) = qs.take j ++ [(u1, u2)] := by rw [List.take_add_one, eu]; rfl
                refine r_un2 (hu.mono sj.tk) ⟨rfl, _, rfl, _, rfl, rfl, _, rfl, ?_⟩
                by_cases e : u1 = u2
                · refine ifF (ne_no e) ⟨rv, hD2, ?_, sj⟩
                  rw [etake, List.filter_append, List.filter_cons_of_neg (by simpa using e), List.filter_nil, List.append_nil]
                  exact pr
                · refine ifT (ne_yes e) ⟨_, rfl, _, rfl, by show 2 ≤ sizeLine; decide, fun t nt => ?_⟩
                  have hD3 := (Sm.new (o := .tup [nI u1, nI u2]) nt).at_ D2 _ rfl hD2
                  have tkt : Tk Hj (upd (upd Hj t (.tup [nI u1, nI u2])) D2 (.lst (rv ++ [.ref t]))) := (Tk.new nt).trans (Tk.lst hD3)
                  refine ⟨rv, hD3, small1000 (by omega), rv ++ [.ref t], upd_same, ?_, (sj.add nt).mut nD2⟩
                  rw [etake, List.filter_append, List.filter_cons_of_pos (by simpa using e), List.filter_nil]
                  exact PSnoc (L2.Paired.mapP pr fun _ _ z => z.mono tkt) ⟨t, rfl, Tk.lst hD3 _ _ upd_same⟩
              · obtain ⟨rv, hD2, pr, sj⟩ := h
                rw [hyl, List.take_length] at pr
                refine .inl ⟨D2, rv, rfl, SqL.of hD2, fun tq ntq => ?_⟩
                have s6 : Sm HT (upd Hj tq (.tup rv)) := (s5.trans sj).add ntq
                have hev : IsPs (upd Hj tq (.tup rv)) (.ref tq) (qs.filter fun q => decide (q.1 ≠ q.2)) := ⟨tq, rv, rfl, upd_same, L2.Paired.mapP pr fun _ _ z => z.mono (Tk.new ntq)⟩
                generalize upd Hj tq (.tup rv) = H6 at s6 hev ⊢
                have hevl : (qs.filter fun q => decide (q.1 ≠ q.2)).length ≤ 200 := by
                  have z := List.length_filter_le (fun q : Nat × Nat => decide (q.1 ≠ q.2)) qs
                  omega
                have hevt : ∀ q ∈ qs.filter fun q => decide (q.1 ≠ q.2), q.1 < W.length ∧ q.2 < W.length := fun q hq => allP_lt (perm.mem_iff.mp (List.mem_filter.mp hq).1)
                have heva : Asc (qs.filter fun q => decide (q.1 ≠ q.2)) := List.Pairwise.filter _ ascq
                generalize (qs.filter fun q => decide (q.1 ≠ q.2)) = L at hev hevl hevt heva
                refine ⟨_, rfl, _, rfl, _, rfl, _, rfl, _, rfl, .ref p, .ref tq, W, x, y, d, rfl, hWT.mono s6.tk, ok, s6.tbs hTT, hx, hy, hne, by omega, .inr (.inl ⟨L, hev, hevt, hevl, fun H7 r s7 r1 r2 => ?_⟩)⟩
                have s67 := s6.trans s7
                refine ⟨_, rfl, _, rfl, _, rfl, _, rfl, _, rfl, .ref p, .ref tq, W, x, y, d, L, rfl, hWT.mono s67.tk, ok, hev.mono s7.tk, hevt, fun H8 r' s8 r1' r2' => ?_⟩
                have er : r = r' := by
                  cases r with
                  | true => exact (r2' (r1 rfl).2).symm
                  | false => cases r' with
                    | false => rfl
                    | true => exact r2 heva (r1' rfl)
                subst er
                have s68 := s67.trans s8
                refine ⟨rfl, _, rfl, ifF (by rw [decide_eq_true rfl]; rfl) ?_⟩
                refine ⟨_, rfl, _, rfl, _, rfl, _, rfl, .ref p, .non, W, x, y, d, rfl, hWT.mono s68.tk, ok, s68.tbs hTT, hx, hy, hne, by omega, .inl ⟨rfl, fun H9 s9 => ⟨_, rfl, _, rfl, _, _, rfl, rfl, rfl, ?_⟩⟩⟩
                exact Eq.mpr (congrArg (fun b => Q (V.bl b) H9) (decide_eq_true (congrArg V.bl hlst))) (q H9)
end
end K2
namespace K2
open PySem PySem.Spec PyProof.Rows L2
/-! ### the head: facts by names -/
def dD (x : Str) (st : Stmt) : He.DefD := ⟨(x, none), x, x, C8.fnArgs st, C8.fnBody st, C8.fnScope st, [], []⟩
def fns0 : List He.DefD := [dD "is_number" st_is_number, dD "are_doors" st_are_doors, dD "leads_back" st_leads_back, dD "rooms_from" st_rooms_from, dD "need_web" st_need_web, dD "need_room" st_need_room, dD "need_two" st_need_two, dD "need_delay" st_need_delay, dD "is_row" st_is_row, dD "seen_on" st_seen_on, dD "lots_of" st_lots_of, dD "pairs_from" st_pairs_from, dD "far" st_far, dD "near_rows" st_near_rows, dD "need_alike" st_need_alike, dD "shrink" st_shrink, dD "shrink_row" st_shrink_row, dD "shows_shrink_row" st_shows_shrink_row, dD "least_delay_of" st_least_delay_of, dD "least_delay" st_least_delay]
def fns1 : List He.DefD := [dD "can_meet" st_can_meet, dD "worst_delay" st_worst_delay, dD "barring_lot" st_barring_lot, dD "is_lot" st_is_lot, dD "shows_barring_lot" st_shows_barring_lot, dD "_law_taken" st_law_taken, dD "_law_cayley" st_law_cayley, dD "_law_linked" st_law_linked, dD "_law_doubled" st_law_doubled, dD "_law_pick" st_law_pick, dD "_law_drawn" st_law_drawn, dD "_law_mixed" st_law_mixed, dD "_law_schreier" st_law_schreier, dD "_law_web" st_law_web, dD "_law_unlike" st_law_unlike, dD "_law_two" st_law_two, dD "_law_pairs" st_law_pairs, dD "_law_far" st_law_far, dD "_law_near" st_law_near, dD "_law_alike" st_law_alike]
def fns2 : List He.DefD := [dD "_law_seen" st_law_seen, dD "_law_bars" st_law_bars, dD "_law_rows_told" st_law_rows_told, dD "law" st_law]
def fns : List He.DefD := fns0 ++ (fns1 ++ (fns2))
def fas0 : List He.Fa := [.glo "is_number", .glo "are_doors", .glo "leads_back", .glo "rooms_from", .glo "need_web", .glo "need_room", .glo "need_two", .glo "need_delay", .glo "is_row", .glo "seen_on", .glo "lots_of", .glo "pairs_from", .glo "far", .glo "near_rows", .glo "need_alike", .glo "shrink", .glo "shrink_row", .glo "shows_shrink_row", .glo "least_delay_of", .glo "least_delay"]
def fas1 : List He.Fa := [.glo "can_meet", .glo "worst_delay", .glo "barring_lot", .glo "is_lot", .glo "shows_barring_lot", .glo "_law_taken", .glo "_law_cayley", .glo "_law_linked", .glo "_law_doubled", .glo "_law_pick", .glo "_law_drawn", .glo "_law_mixed", .glo "_law_schreier", .glo "_law_web", .glo "_law_unlike", .glo "_law_two", .glo "_law_pairs", .glo "_law_far", .glo "_law_near", .glo "_law_alike"]
def fas2 : List He.Fa := [.glo "_law_seen", .glo "_law_bars", .glo "_law_rows_told", .glo "law", .free "len", .free "range", .free "isinstance", .free "int", .free "bool", .free "tuple", .free "list", .free "str", .free "set", .free "sorted", .free "min", .free "max", .free "zip", .free "enumerate", .free "all", .int "MOST_ROOMS" 7]
def fas3 : List He.Fa := [.int "MOST_DOORS" 4, .int "MOST_DELAY" 20, .int "MOST_ROW" 1000, .glo "Unlike", .exc "Unlike", .exm "Unlike" "Unlike" true]
def fas : List He.Fa := fas0 ++ (fas1 ++ (fas2 ++ (fas3)))
def tbs : List He.Defn := [("need_web", none), ("is_row", none), ("is_lot", none)]
abbrev RR : PySem.W.OpenRow := PySem.W.OpenLaw.row PySem.Challenge.rw_shrinkweb_k02_whole_shrinks
abbrev hk : PySem.W.Hook := He.hookX 4 fas fns [] tbs (fun _ => true)
def ob (s : PySem.W.SharedT) : He.AlX := He.obsX 4 fas fns [] tbs (fun _ => true) (HandSHeadRun.getT s)
theorem ob_eq (s : PySem.W.SharedT) : ob s = hk.obs s.abs := He.obsX_eq (HandSHeadRun.getT_eq s)
def loose0 : List Str := ["WebError", "BadWeb", "BadRoom", "BadRooms", "BadDelay", "Unlike", "MOST_ROOMS", "MOST_DOORS", "MOST_DELAY", "MOST_ROW", "is_number", "are_doors", "leads_back", "rooms_from", "need_web", "need_room", "need_two", "need_delay", "is_row", "seen_on", "lots_of", "pairs_from", "far", "near_rows", "need_alike", "shrink", "shrink_row", "shows_shrink_row", "least_delay_of", "least_delay"]
def loose1 : List Str := ["can_meet", "worst_delay", "barring_lot", "is_lot", "shows_barring_lot", "_law_taken", "_law_cayley", "_law_linked", "_law_doubled", "_law_pick", "_law_drawn", "_law_mixed", "_law_schreier", "_law_web", "_law_unlike", "_law_two", "_law_pairs", "_law_far", "_law_near", "_law_alike", "_law_seen", "_law_bars", "_law_rows_told"]
def loose : List Str := loose0 ++ (loose1)
theorem runH (w : World) : HandSHeadRun.RunEq RR (PySem.W.view RR.prog [58]) hk ob 4000 loose w := by
  intro os
  kernel_rfl
end K2
namespace K2
open PySem PySem.Spec PyProof.Rows L2
/-! ### the end -/
section
variable {w : World} {K : PySem.W.Frag} {h : Heap} {mg : Str → Option Value} {f : Addr}
theorem def_of {x : Str} {st : Stmt} {fd : FuncData} (F : FunD K x x (C8.fnArgs st) (C8.fnBody st) (C8.fnScope st) [] [] f fd) (g : mg x = some (.ref f)) : C8.Def K mg x st f fd := by
  obtain ⟨oc, od, dV, kV, doc, pm, an, cdv, ct, osl, e, lk, hcd, _, _⟩ := F.ex
  exact ⟨⟨oc, od, dV, kV, doc, pm, an, cdv, ct, osl, e, lk, hcd⟩, g, F.kp⟩
theorem code_of {x : Str} {st : Stmt} {fd : FuncData} (F : FunD K x x (C8.fnArgs st) (C8.fnBody st) (C8.fnScope st) [] [] (He.ga K x) fd) : fd.code = .ref (He.codeOf K (x, none)) := by
  obtain ⟨oc, od, dV, kV, doc, pm, an, cdv, ct, osl, e, lk, hcd, _, _⟩ := F.ex
  obtain ⟨c, ec⟩ := He.codeIn_ref hcd
  have e2 : fd.code = .ref c := by rw [e]; exact ec
  rw [He.codeOf_eq (p := (x, none)) lk e2, e2]
theorem tab_of {base : Heap} {c p : Addr} (z : LamX.TabB base mg c p) : GxR.TabB base mg c p := ⟨z.code, z.bm, z.gP⟩
theorem int_of {x : Str} {i : Int} (e : ∃ t, mg x = some (.int i t)) : ∃ u, mg x = some u ∧ RelV (.int i) u := by
  obtain ⟨t, e⟩ := e
  exact ⟨_, e, t, rfl⟩
theorem glob_of (X : K.In h) (G : h.Ns mainGlobals mg) (c : He.SaysD fas fns K) : Glob mg where
  len := He.free_ok X G (c.fact 44 (f := .free "len") rfl)
  range := He.free_ok X G (c.fact 45 (f := .free "range") rfl)
  isinstance := He.free_ok X G (c.fact 46 (f := .free "isinstance") rfl)
  int := He.free_ok X G (c.fact 47 (f := .free "int") rfl)
  bool := He.free_ok X G (c.fact 48 (f := .free "bool") rfl)
  tuple := He.free_ok X G (c.fact 49 (f := .free "tuple") rfl)
  list := He.free_ok X G (c.fact 50 (f := .free "list") rfl)
  str := He.free_ok X G (c.fact 51 (f := .free "str") rfl)
  set := He.free_ok X G (c.fact 52 (f := .free "set") rfl)
  sorted := He.free_ok X G (c.fact 53 (f := .free "sorted") rfl)
  min := He.free_ok X G (c.fact 54 (f := .free "min") rfl)
  max := He.free_ok X G (c.fact 55 (f := .free "max") rfl)
  zip := He.free_ok X G (c.fact 56 (f := .free "zip") rfl)
  enumerate := He.free_ok X G (c.fact 57 (f := .free "enumerate") rfl)
  all := He.free_ok X G (c.fact 58 (f := .free "all") rfl)
  MOST_ROOMS := int_of (He.int_ok X G (c.fact 59 (f := .int "MOST_ROOMS" 7) rfl))
  MOST_DOORS := int_of (He.int_ok X G (c.fact 60 (f := .int "MOST_DOORS" 4) rfl))
  MOST_DELAY := int_of (He.int_ok X G (c.fact 61 (f := .int "MOST_DELAY" 20) rfl))
  MOST_ROW := int_of (He.int_ok X G (c.fact 62 (f := .int "MOST_ROW" 1000) rfl))
theorem unl_of (X : K.In h) (G : h.Ns mainGlobals mg) (c : He.SaysD fas fns K) : UnlT K mg (He.ga K "Unlike") := by
  obtain ⟨h1, h2, h3, h4⟩ := He.exc_ok (c.fact 64 (f := .exc "Unlike") rfl)
  exact ⟨h1, He.glo_ok X G (c.fact 63 (f := .glo "Unlike") rfl), h2, h3, h4, He.exm_ok (c.fact 65 (f := .exm "Unlike" "Unlike" true) rfl)⟩
theorem fn_is_number (c : He.SaysD fas fns K) : ∃ fd, FunD K "is_number" "is_number" (C8.fnArgs st_is_number) (C8.fnBody st_is_number) (C8.fnScope st_is_number) [] [] (He.ga K "is_number") fd := c.def_ 0 (d := dD "is_number" st_is_number) rfl
theorem bn_is_number {fd : FuncData} (F : FunD K "is_number" "is_number" (C8.fnArgs st_is_number) (C8.fnBody st_is_number) (C8.fnScope st_is_number) [] [] f fd) : Binds K fd ["value", "low", "high"] [] := F.bindsN (ps := ["value", "low", "high"]) fun _ _ _ _ _ _ us hl => match us, hl with | [_, _, _], _ => rfl
theorem fn_are_doors (c : He.SaysD fas fns K) : ∃ fd, FunD K "are_doors" "are_doors" (C8.fnArgs st_are_doors) (C8.fnBody st_are_doors) (C8.fnScope st_are_doors) [] [] (He.ga K "are_doors") fd := c.def_ 1 (d := dD "are_doors" st_are_doors) rfl
theorem bn_are_doors {fd : FuncData} (F : FunD K "are_doors" "are_doors" (C8.fnArgs st_are_doors) (C8.fnBody st_are_doors) (C8.fnScope st_are_doors) [] [] f fd) : Binds K fd ["value", "rooms"] [] := F.bindsN (ps := ["value", "rooms"]) fun _ _ _ _ _ _ us hl => match us, hl with | [_, _], _ => rfl
theorem fn_leads_back (c : He.SaysD fas fns K) : ∃ fd, FunD K "leads_back" "leads_back" (C8.fnArgs st_leads_back) (C8.fnBody st_leads_back) (C8.fnScope st_leads_back) [] [] (He.ga K "leads_back") fd := c.def_ 2 (d := dD "leads_back" st_leads_back) rfl
theorem bn_leads_back {fd : FuncData} (F : FunD K "leads_back" "leads_back" (C8.fnArgs st_leads_back) (C8.fnBody st_leads_back) (C8.fnScope st_leads_back) [] [] f fd) : Binds K fd ["web", "room", "number"] [] := F.bindsN (ps := ["web", "room", "number"]) fun _ _ _ _ _ _ us hl => match us, hl with | [_, _, _], _ => rfl
theorem fn_rooms_from (c : He.SaysD fas fns K) : ∃ fd, FunD K "rooms_from" "rooms_from" (C8.fnArgs st_rooms_from) (C8.fnBody st_rooms_from) (C8.fnScope st_rooms_from) [] [] (He.ga K "rooms_from") fd := c.def_ 3 (d := dD "rooms_from" st_rooms_from) rfl
theorem bn_rooms_from {fd : FuncData} (F : FunD K "rooms_from" "rooms_from" (C8.fnArgs st_rooms_from) (C8.fnBody st_rooms_from) (C8.fnScope st_rooms_from) [] [] f fd) : Binds K fd ["web", "room"] [] := F.bindsN (ps := ["web", "room"]) fun _ _ _ _ _ _ us hl => match us, hl with | [_, _], _ => rfl
theorem fn_need_web (c : He.SaysD fas fns K) : ∃ fd, FunD K "need_web" "need_web" (C8.fnArgs st_need_web) (C8.fnBody st_need_web) (C8.fnScope st_need_web) [] [] (He.ga K "need_web") fd := c.def_ 4 (d := dD "need_web" st_need_web) rfl
theorem bn_need_web {fd : FuncData} (F : FunD K "need_web" "need_web" (C8.fnArgs st_need_web) (C8.fnBody st_need_web) (C8.fnScope st_need_web) [] [] f fd) : Binds K fd ["value"] [] := F.bindsN (ps := ["value"]) fun _ _ _ _ _ _ us hl => match us, hl with | [_], _ => rfl
theorem fn_need_room (c : He.SaysD fas fns K) : ∃ fd, FunD K "need_room" "need_room" (C8.fnArgs st_need_room) (C8.fnBody st_need_room) (C8.fnScope st_need_room) [] [] (He.ga K "need_room") fd := c.def_ 5 (d := dD "need_room" st_need_room) rfl
theorem bn_need_room {fd : FuncData} (F : FunD K "need_room" "need_room" (C8.fnArgs st_need_room) (C8.fnBody st_need_room) (C8.fnScope st_need_room) [] [] f fd) : Binds K fd ["web", "value"] [] := F.bindsN (ps := ["web", "value"]) fun _ _ _ _ _ _ us hl => match us, hl with | [_, _], _ => rfl
theorem fn_need_two (c : He.SaysD fas fns K) : ∃ fd, FunD K "need_two" "need_two" (C8.fnArgs st_need_two) (C8.fnBody st_need_two) (C8.fnScope st_need_two) [] [] (He.ga K "need_two") fd := c.def_ 6 (d := dD "need_two" st_need_two) rfl
theorem bn_need_two {fd : FuncData} (F : FunD K "need_two" "need_two" (C8.fnArgs st_need_two) (C8.fnBody st_need_two) (C8.fnScope st_need_two) [] [] f fd) : Binds K fd ["web", "one", "other"] [] := F.bindsN (ps := ["web", "one", "other"]) fun _ _ _ _ _ _ us hl => match us, hl with | [_, _, _], _ => rfl
theorem fn_need_delay (c : He.SaysD fas fns K) : ∃ fd, FunD K "need_delay" "need_delay" (C8.fnArgs st_need_delay) (C8.fnBody st_need_delay) (C8.fnScope st_need_delay) [] [] (He.ga K "need_delay") fd := c.def_ 7 (d := dD "need_delay" st_need_delay) rfl
theorem bn_need_delay {fd : FuncData} (F : FunD K "need_delay" "need_delay" (C8.fnArgs st_need_delay) (C8.fnBody st_need_delay) (C8.fnScope st_need_delay) [] [] f fd) : Binds K fd ["value"] [] := F.bindsN (ps := ["value"]) fun _ _ _ _ _ _ us hl => match us, hl with | [_], _ => rfl
theorem fn_is_row (c : He.SaysD fas fns K) : ∃ fd, FunD K "is_row" "is_row" (C8.fnArgs st_is_row) (C8.fnBody st_is_row) (C8.fnScope st_is_row) [] [] (He.ga K "is_row") fd := c.def_ 8 (d := dD "is_row" st_is_row) rfl
theorem bn_is_row {fd : FuncData} (F : FunD K "is_row" "is_row" (C8.fnArgs st_is_row) (C8.fnBody st_is_row) (C8.fnScope st_is_row) [] [] f fd) : Binds K fd ["value"] [] := F.bindsN (ps := ["value"]) fun _ _ _ _ _ _ us hl => match us, hl with | [_], _ => rfl
theorem fn_seen_on (c : He.SaysD fas fns K) : ∃ fd, FunD K "seen_on" "seen_on" (C8.fnArgs st_seen_on) (C8.fnBody st_seen_on) (C8.fnScope st_seen_on) [] [] (He.ga K "seen_on") fd := c.def_ 9 (d := dD "seen_on" st_seen_on) rfl
theorem bn_seen_on {fd : FuncData} (F : FunD K "seen_on" "seen_on" (C8.fnArgs st_seen_on) (C8.fnBody st_seen_on) (C8.fnScope st_seen_on) [] [] f fd) : Binds K fd ["web", "room", "row"] [] := F.bindsN (ps := ["web", "room", "row"]) fun _ _ _ _ _ _ us hl => match us, hl with | [_, _, _], _ => rfl
theorem fn_lots_of (c : He.SaysD fas fns K) : ∃ fd, FunD K "lots_of" "lots_of" (C8.fnArgs st_lots_of) (C8.fnBody st_lots_of) (C8.fnScope st_lots_of) [] [] (He.ga K "lots_of") fd := c.def_ 10 (d := dD "lots_of" st_lots_of) rfl
theorem bn_lots_of {fd : FuncData} (F : FunD K "lots_of" "lots_of" (C8.fnArgs st_lots_of) (C8.fnBody st_lots_of) (C8.fnScope st_lots_of) [] [] f fd) : Binds K fd ["web"] [] := F.bindsN (ps := ["web"]) fun _ _ _ _ _ _ us hl => match us, hl with | [_], _ => rfl
theorem fn_pairs_from (c : He.SaysD fas fns K) : ∃ fd, FunD K "pairs_from" "pairs_from" (C8.fnArgs st_pairs_from) (C8.fnBody st_pairs_from) (C8.fnScope st_pairs_from) [] [] (He.ga K "pairs_from") fd := c.def_ 11 (d := dD "pairs_from" st_pairs_from) rfl
theorem bn_pairs_from {fd : FuncData} (F : FunD K "pairs_from" "pairs_from" (C8.fnArgs st_pairs_from) (C8.fnBody st_pairs_from) (C8.fnScope st_pairs_from) [] [] f fd) : Binds K fd ["web", "one", "other"] [] := F.bindsN (ps := ["web", "one", "other"]) fun _ _ _ _ _ _ us hl => match us, hl with | [_, _, _], _ => rfl
theorem fn_far (c : He.SaysD fas fns K) : ∃ fd, FunD K "far" "far" (C8.fnArgs st_far) (C8.fnBody st_far) (C8.fnScope st_far) [] [] (He.ga K "far") fd := c.def_ 12 (d := dD "far" st_far) rfl
theorem bn_far {fd : FuncData} (F : FunD K "far" "far" (C8.fnArgs st_far) (C8.fnBody st_far) (C8.fnScope st_far) [] [] f fd) : Binds K fd ["web", "pair"] [] := F.bindsN (ps := ["web", "pair"]) fun _ _ _ _ _ _ us hl => match us, hl with | [_, _], _ => rfl
theorem fn_near_rows (c : He.SaysD fas fns K) : ∃ fd, FunD K "near_rows" "near_rows" (C8.fnArgs st_near_rows) (C8.fnBody st_near_rows) (C8.fnScope st_near_rows) [] [] (He.ga K "near_rows") fd := c.def_ 13 (d := dD "near_rows" st_near_rows) rfl
theorem bn_near_rows {fd : FuncData} (F : FunD K "near_rows" "near_rows" (C8.fnArgs st_near_rows) (C8.fnBody st_near_rows) (C8.fnScope st_near_rows) [] [] f fd) : Binds K fd ["web", "one", "other"] [] := F.bindsN (ps := ["web", "one", "other"]) fun _ _ _ _ _ _ us hl => match us, hl with | [_, _, _], _ => rfl
theorem fn_need_alike (c : He.SaysD fas fns K) : ∃ fd, FunD K "need_alike" "need_alike" (C8.fnArgs st_need_alike) (C8.fnBody st_need_alike) (C8.fnScope st_need_alike) [] [] (He.ga K "need_alike") fd := c.def_ 14 (d := dD "need_alike" st_need_alike) rfl
theorem bn_need_alike {fd : FuncData} (F : FunD K "need_alike" "need_alike" (C8.fnArgs st_need_alike) (C8.fnBody st_need_alike) (C8.fnScope st_need_alike) [] [] f fd) : Binds K fd ["web", "one", "other"] [] := F.bindsN (ps := ["web", "one", "other"]) fun _ _ _ _ _ _ us hl => match us, hl with | [_, _, _], _ => rfl
theorem fn_shrink (c : He.SaysD fas fns K) : ∃ fd, FunD K "shrink" "shrink" (C8.fnArgs st_shrink) (C8.fnBody st_shrink) (C8.fnScope st_shrink) [] [] (He.ga K "shrink") fd := c.def_ 15 (d := dD "shrink" st_shrink) rfl
theorem bn_shrink {fd : FuncData} (F : FunD K "shrink" "shrink" (C8.fnArgs st_shrink) (C8.fnBody st_shrink) (C8.fnScope st_shrink) [] [] f fd) : Binds K fd ["web", "one", "other"] [] := F.bindsN (ps := ["web", "one", "other"]) fun _ _ _ _ _ _ us hl => match us, hl with | [_, _, _], _ => rfl
theorem fn_shrink_row (c : He.SaysD fas fns K) : ∃ fd, FunD K "shrink_row" "shrink_row" (C8.fnArgs st_shrink_row) (C8.fnBody st_shrink_row) (C8.fnScope st_shrink_row) [] [] (He.ga K "shrink_row") fd := c.def_ 16 (d := dD "shrink_row" st_shrink_row) rfl
theorem bn_shrink_row {fd : FuncData} (F : FunD K "shrink_row" "shrink_row" (C8.fnArgs st_shrink_row) (C8.fnBody st_shrink_row) (C8.fnScope st_shrink_row) [] [] f fd) : Binds K fd ["web", "one", "other"] [] := F.bindsN (ps := ["web", "one", "other"]) fun _ _ _ _ _ _ us hl => match us, hl with | [_, _, _], _ => rfl
theorem fn_shows_shrink_row (c : He.SaysD fas fns K) : ∃ fd, FunD K "shows_shrink_row" "shows_shrink_row" (C8.fnArgs st_shows_shrink_row) (C8.fnBody st_shows_shrink_row) (C8.fnScope st_shows_shrink_row) [] [] (He.ga K "shows_shrink_row") fd := c.def_ 17 (d := dD "shows_shrink_row" st_shows_shrink_row) rfl
theorem bn_shows_shrink_row {fd : FuncData} (F : FunD K "shows_shrink_row" "shows_shrink_row" (C8.fnArgs st_shows_shrink_row) (C8.fnBody st_shows_shrink_row) (C8.fnScope st_shows_shrink_row) [] [] f fd) : Binds K fd ["web", "one", "other", "value"] [] := F.bindsN (ps := ["web", "one", "other", "value"]) fun _ _ _ _ _ _ us hl => match us, hl with | [_, _, _, _], _ => rfl
theorem fn_least_delay_of (c : He.SaysD fas fns K) : ∃ fd, FunD K "least_delay_of" "least_delay_of" (C8.fnArgs st_least_delay_of) (C8.fnBody st_least_delay_of) (C8.fnScope st_least_delay_of) [] [] (He.ga K "least_delay_of") fd := c.def_ 18 (d := dD "least_delay_of" st_least_delay_of) rfl
theorem bn_least_delay_of {fd : FuncData} (F : FunD K "least_delay_of" "least_delay_of" (C8.fnArgs st_least_delay_of) (C8.fnBody st_least_delay_of) (C8.fnScope st_least_delay_of) [] [] f fd) : Binds K fd ["web", "one", "other"] [] := F.bindsN (ps := ["web", "one", "other"]) fun _ _ _ _ _ _ us hl => match us, hl with | [_, _, _], _ => rfl
theorem fn_least_delay (c : He.SaysD fas fns K) : ∃ fd, FunD K "least_delay" "least_delay" (C8.fnArgs st_least_delay) (C8.fnBody st_least_delay) (C8.fnScope st_least_delay) [] [] (He.ga K "least_delay") fd := c.def_ 19 (d := dD "least_delay" st_least_delay) rfl
theorem bn_least_delay {fd : FuncData} (F : FunD K "least_delay" "least_delay" (C8.fnArgs st_least_delay) (C8.fnBody st_least_delay) (C8.fnScope st_least_delay) [] [] f fd) : Binds K fd ["web", "one", "other"] [] := F.bindsN (ps := ["web", "one", "other"]) fun _ _ _ _ _ _ us hl => match us, hl with | [_, _, _], _ => rfl
theorem fn_can_meet (c : He.SaysD fas fns K) : ∃ fd, FunD K "can_meet" "can_meet" (C8.fnArgs st_can_meet) (C8.fnBody st_can_meet) (C8.fnScope st_can_meet) [] [] (He.ga K "can_meet") fd := c.def_ 20 (d := dD "can_meet" st_can_meet) rfl
theorem bn_can_meet {fd : FuncData} (F : FunD K "can_meet" "can_meet" (C8.fnArgs st_can_meet) (C8.fnBody st_can_meet) (C8.fnScope st_can_meet) [] [] f fd) : Binds K fd ["web", "one", "other", "delay"] [] := F.bindsN (ps := ["web", "one", "other", "delay"]) fun _ _ _ _ _ _ us hl => match us, hl with | [_, _, _, _], _ => rfl
theorem fn_worst_delay (c : He.SaysD fas fns K) : ∃ fd, FunD K "worst_delay" "worst_delay" (C8.fnArgs st_worst_delay) (C8.fnBody st_worst_delay) (C8.fnScope st_worst_delay) [] [] (He.ga K "worst_delay") fd := c.def_ 21 (d := dD "worst_delay" st_worst_delay) rfl
theorem bn_worst_delay {fd : FuncData} (F : FunD K "worst_delay" "worst_delay" (C8.fnArgs st_worst_delay) (C8.fnBody st_worst_delay) (C8.fnScope st_worst_delay) [] [] f fd) : Binds K fd ["web"] [] := F.bindsN (ps := ["web"]) fun _ _ _ _ _ _ us hl => match us, hl with | [_], _ => rfl
theorem fn_barring_lot (c : He.SaysD fas fns K) : ∃ fd, FunD K "barring_lot" "barring_lot" (C8.fnArgs st_barring_lot) (C8.fnBody st_barring_lot) (C8.fnScope st_barring_lot) [] [] (He.ga K "barring_lot") fd := c.def_ 22 (d := dD "barring_lot" st_barring_lot) rfl
theorem bn_barring_lot {fd : FuncData} (F : FunD K "barring_lot" "barring_lot" (C8.fnArgs st_barring_lot) (C8.fnBody st_barring_lot) (C8.fnScope st_barring_lot) [] [] f fd) : Binds K fd ["web", "one", "other", "delay"] [] := F.bindsN (ps := ["web", "one", "other", "delay"]) fun _ _ _ _ _ _ us hl => match us, hl with | [_, _, _, _], _ => rfl
theorem fn_is_lot (c : He.SaysD fas fns K) : ∃ fd, FunD K "is_lot" "is_lot" (C8.fnArgs st_is_lot) (C8.fnBody st_is_lot) (C8.fnScope st_is_lot) [] [] (He.ga K "is_lot") fd := c.def_ 23 (d := dD "is_lot" st_is_lot) rfl
theorem bn_is_lot {fd : FuncData} (F : FunD K "is_lot" "is_lot" (C8.fnArgs st_is_lot) (C8.fnBody st_is_lot) (C8.fnScope st_is_lot) [] [] f fd) : Binds K fd ["web", "value"] [] := F.bindsN (ps := ["web", "value"]) fun _ _ _ _ _ _ us hl => match us, hl with | [_, _], _ => rfl
theorem fn_shows_barring_lot (c : He.SaysD fas fns K) : ∃ fd, FunD K "shows_barring_lot" "shows_barring_lot" (C8.fnArgs st_shows_barring_lot) (C8.fnBody st_shows_barring_lot) (C8.fnScope st_shows_barring_lot) [] [] (He.ga K "shows_barring_lot") fd := c.def_ 24 (d := dD "shows_barring_lot" st_shows_barring_lot) rfl
theorem bn_shows_barring_lot {fd : FuncData} (F : FunD K "shows_barring_lot" "shows_barring_lot" (C8.fnArgs st_shows_barring_lot) (C8.fnBody st_shows_barring_lot) (C8.fnScope st_shows_barring_lot) [] [] f fd) : Binds K fd ["web", "one", "other", "delay", "value"] [] := F.bindsN (ps := ["web", "one", "other", "delay", "value"]) fun _ _ _ _ _ _ us hl => match us, hl with | [_, _, _, _, _], _ => rfl
theorem fn_law_taken (c : He.SaysD fas fns K) : ∃ fd, FunD K "_law_taken" "_law_taken" (C8.fnArgs st_law_taken) (C8.fnBody st_law_taken) (C8.fnScope st_law_taken) [] [] (He.ga K "_law_taken") fd := c.def_ 25 (d := dD "_law_taken" st_law_taken) rfl
theorem bn_law_taken {fd : FuncData} (F : FunD K "_law_taken" "_law_taken" (C8.fnArgs st_law_taken) (C8.fnBody st_law_taken) (C8.fnScope st_law_taken) [] [] f fd) : Binds K fd ["_law_row", "_law_many"] [] := F.bindsN (ps := ["_law_row", "_law_many"]) fun _ _ _ _ _ _ us hl => match us, hl with | [_, _], _ => rfl
theorem fn_law_cayley (c : He.SaysD fas fns K) : ∃ fd, FunD K "_law_cayley" "_law_cayley" (C8.fnArgs st_law_cayley) (C8.fnBody st_law_cayley) (C8.fnScope st_law_cayley) [] [] (He.ga K "_law_cayley") fd := c.def_ 26 (d := dD "_law_cayley" st_law_cayley) rfl
theorem bn_law_cayley {fd : FuncData} (F : FunD K "_law_cayley" "_law_cayley" (C8.fnArgs st_law_cayley) (C8.fnBody st_law_cayley) (C8.fnScope st_law_cayley) [] [] f fd) : Binds K fd ["_law_row"] [] := F.bindsN (ps := ["_law_row"]) fun _ _ _ _ _ _ us hl => match us, hl with | [_], _ => rfl
theorem fn_law_linked (c : He.SaysD fas fns K) : ∃ fd, FunD K "_law_linked" "_law_linked" (C8.fnArgs st_law_linked) (C8.fnBody st_law_linked) (C8.fnScope st_law_linked) [] [] (He.ga K "_law_linked") fd := c.def_ 27 (d := dD "_law_linked" st_law_linked) rfl
theorem bn_law_linked {fd : FuncData} (F : FunD K "_law_linked" "_law_linked" (C8.fnArgs st_law_linked) (C8.fnBody st_law_linked) (C8.fnScope st_law_linked) [] [] f fd) : Binds K fd ["_law_pairs_here", "_law_many"] [] := F.bindsN (ps := ["_law_pairs_here", "_law_many"]) fun _ _ _ _ _ _ us hl => match us, hl with | [_, _], _ => rfl
theorem fn_law_doubled (c : He.SaysD fas fns K) : ∃ fd, FunD K "_law_doubled" "_law_doubled" (C8.fnArgs st_law_doubled) (C8.fnBody st_law_doubled) (C8.fnScope st_law_doubled) [] [] (He.ga K "_law_doubled") fd := c.def_ 28 (d := dD "_law_doubled" st_law_doubled) rfl
theorem bn_law_doubled {fd : FuncData} (F : FunD K "_law_doubled" "_law_doubled" (C8.fnArgs st_law_doubled) (C8.fnBody st_law_doubled) (C8.fnScope st_law_doubled) [] [] f fd) : Binds K fd ["_law_row"] [] := F.bindsN (ps := ["_law_row"]) fun _ _ _ _ _ _ us hl => match us, hl with | [_], _ => rfl
theorem fn_law_pick (c : He.SaysD fas fns K) : ∃ fd, FunD K "_law_pick" "_law_pick" (C8.fnArgs st_law_pick) (C8.fnBody st_law_pick) (C8.fnScope st_law_pick) [] [] (He.ga K "_law_pick") fd := c.def_ 29 (d := dD "_law_pick" st_law_pick) rfl
theorem bn_law_pick {fd : FuncData} (F : FunD K "_law_pick" "_law_pick" (C8.fnArgs st_law_pick) (C8.fnBody st_law_pick) (C8.fnScope st_law_pick) [] [] f fd) : Binds K fd ["_law_row", "_law_things"] [] := F.bindsN (ps := ["_law_row", "_law_things"]) fun _ _ _ _ _ _ us hl => match us, hl with | [_, _], _ => rfl
theorem fn_law_drawn (c : He.SaysD fas fns K) : ∃ fd, FunD K "_law_drawn" "_law_drawn" (C8.fnArgs st_law_drawn) (C8.fnBody st_law_drawn) (C8.fnScope st_law_drawn) [] [] (He.ga K "_law_drawn") fd := c.def_ 30 (d := dD "_law_drawn" st_law_drawn) rfl
theorem bn_law_drawn {fd : FuncData} (F : FunD K "_law_drawn" "_law_drawn" (C8.fnArgs st_law_drawn) (C8.fnBody st_law_drawn) (C8.fnScope st_law_drawn) [] [] f fd) : Binds K fd ["_law_row", "_law_many"] [] := F.bindsN (ps := ["_law_row", "_law_many"]) fun _ _ _ _ _ _ us hl => match us, hl with | [_, _], _ => rfl
theorem fn_law_mixed (c : He.SaysD fas fns K) : ∃ fd, FunD K "_law_mixed" "_law_mixed" (C8.fnArgs st_law_mixed) (C8.fnBody st_law_mixed) (C8.fnScope st_law_mixed) [] [] (He.ga K "_law_mixed") fd := c.def_ 31 (d := dD "_law_mixed" st_law_mixed) rfl
theorem bn_law_mixed {fd : FuncData} (F : FunD K "_law_mixed" "_law_mixed" (C8.fnArgs st_law_mixed) (C8.fnBody st_law_mixed) (C8.fnScope st_law_mixed) [] [] f fd) : Binds K fd ["_law_row", "_law_many"] [] := F.bindsN (ps := ["_law_row", "_law_many"]) fun _ _ _ _ _ _ us hl => match us, hl with | [_, _], _ => rfl
theorem fn_law_schreier (c : He.SaysD fas fns K) : ∃ fd, FunD K "_law_schreier" "_law_schreier" (C8.fnArgs st_law_schreier) (C8.fnBody st_law_schreier) (C8.fnScope st_law_schreier) [] [] (He.ga K "_law_schreier") fd := c.def_ 32 (d := dD "_law_schreier" st_law_schreier) rfl
theorem bn_law_schreier {fd : FuncData} (F : FunD K "_law_schreier" "_law_schreier" (C8.fnArgs st_law_schreier) (C8.fnBody st_law_schreier) (C8.fnScope st_law_schreier) [] [] f fd) : Binds K fd ["_law_row"] [] := F.bindsN (ps := ["_law_row"]) fun _ _ _ _ _ _ us hl => match us, hl with | [_], _ => rfl
theorem fn_law_web (c : He.SaysD fas fns K) : ∃ fd, FunD K "_law_web" "_law_web" (C8.fnArgs st_law_web) (C8.fnBody st_law_web) (C8.fnScope st_law_web) [] [] (He.ga K "_law_web") fd := c.def_ 33 (d := dD "_law_web" st_law_web) rfl
theorem bn_law_web {fd : FuncData} (F : FunD K "_law_web" "_law_web" (C8.fnArgs st_law_web) (C8.fnBody st_law_web) (C8.fnScope st_law_web) [] [] f fd) : Binds K fd ["_law_row"] [] := F.bindsN (ps := ["_law_row"]) fun _ _ _ _ _ _ us hl => match us, hl with | [_], _ => rfl
theorem fn_law_unlike (c : He.SaysD fas fns K) : ∃ fd, FunD K "_law_unlike" "_law_unlike" (C8.fnArgs st_law_unlike) (C8.fnBody st_law_unlike) (C8.fnScope st_law_unlike) [] [] (He.ga K "_law_unlike") fd := c.def_ 34 (d := dD "_law_unlike" st_law_unlike) rfl
theorem bn_law_unlike {fd : FuncData} (F : FunD K "_law_unlike" "_law_unlike" (C8.fnArgs st_law_unlike) (C8.fnBody st_law_unlike) (C8.fnScope st_law_unlike) [] [] f fd) : Binds K fd ["_law_web_here"] [] := F.bindsN (ps := ["_law_web_here"]) fun _ _ _ _ _ _ us hl => match us, hl with | [_], _ => rfl
theorem fn_law_two (c : He.SaysD fas fns K) : ∃ fd, FunD K "_law_two" "_law_two" (C8.fnArgs st_law_two) (C8.fnBody st_law_two) (C8.fnScope st_law_two) [] [] (He.ga K "_law_two") fd := c.def_ 35 (d := dD "_law_two" st_law_two) rfl
theorem bn_law_two {fd : FuncData} (F : FunD K "_law_two" "_law_two" (C8.fnArgs st_law_two) (C8.fnBody st_law_two) (C8.fnScope st_law_two) [] [] f fd) : Binds K fd ["_law_row", "_law_web_here", "_law_want"] [] := F.bindsN (ps := ["_law_row", "_law_web_here", "_law_want"]) fun _ _ _ _ _ _ us hl => match us, hl with | [_, _, _], _ => rfl
theorem fn_law_pairs (c : He.SaysD fas fns K) : ∃ fd, FunD K "_law_pairs" "_law_pairs" (C8.fnArgs st_law_pairs) (C8.fnBody st_law_pairs) (C8.fnScope st_law_pairs) [] [] (He.ga K "_law_pairs") fd := c.def_ 36 (d := dD "_law_pairs" st_law_pairs) rfl
theorem bn_law_pairs {fd : FuncData} (F : FunD K "_law_pairs" "_law_pairs" (C8.fnArgs st_law_pairs) (C8.fnBody st_law_pairs) (C8.fnScope st_law_pairs) [] [] f fd) : Binds K fd ["_law_web_here", "_law_one", "_law_other"] [] := F.bindsN (ps := ["_law_web_here", "_law_one", "_law_other"]) fun _ _ _ _ _ _ us hl => match us, hl with | [_, _, _], _ => rfl
theorem fn_law_far (c : He.SaysD fas fns K) : ∃ fd, FunD K "_law_far" "_law_far" (C8.fnArgs st_law_far) (C8.fnBody st_law_far) (C8.fnScope st_law_far) [] [] (He.ga K "_law_far") fd := c.def_ 37 (d := dD "_law_far" st_law_far) rfl
theorem bn_law_far {fd : FuncData} (F : FunD K "_law_far" "_law_far" (C8.fnArgs st_law_far) (C8.fnBody st_law_far) (C8.fnScope st_law_far) [] [] f fd) : Binds K fd ["_law_web_here", "_law_one", "_law_other"] [] := F.bindsN (ps := ["_law_web_here", "_law_one", "_law_other"]) fun _ _ _ _ _ _ us hl => match us, hl with | [_, _, _], _ => rfl
theorem fn_law_near (c : He.SaysD fas fns K) : ∃ fd, FunD K "_law_near" "_law_near" (C8.fnArgs st_law_near) (C8.fnBody st_law_near) (C8.fnScope st_law_near) [] [] (He.ga K "_law_near") fd := c.def_ 38 (d := dD "_law_near" st_law_near) rfl
theorem bn_law_near {fd : FuncData} (F : FunD K "_law_near" "_law_near" (C8.fnArgs st_law_near) (C8.fnBody st_law_near) (C8.fnScope st_law_near) [] [] f fd) : Binds K fd ["_law_web_here", "_law_one", "_law_other"] [] := F.bindsN (ps := ["_law_web_here", "_law_one", "_law_other"]) fun _ _ _ _ _ _ us hl => match us, hl with | [_, _, _], _ => rfl
theorem fn_law_alike (c : He.SaysD fas fns K) : ∃ fd, FunD K "_law_alike" "_law_alike" (C8.fnArgs st_law_alike) (C8.fnBody st_law_alike) (C8.fnScope st_law_alike) [] [] (He.ga K "_law_alike") fd := c.def_ 39 (d := dD "_law_alike" st_law_alike) rfl
theorem bn_law_alike {fd : FuncData} (F : FunD K "_law_alike" "_law_alike" (C8.fnArgs st_law_alike) (C8.fnBody st_law_alike) (C8.fnScope st_law_alike) [] [] f fd) : Binds K fd ["_law_found", "_law_due"] [] := F.bindsN (ps := ["_law_found", "_law_due"]) fun _ _ _ _ _ _ us hl => match us, hl with | [_, _], _ => rfl
theorem fn_law_seen (c : He.SaysD fas fns K) : ∃ fd, FunD K "_law_seen" "_law_seen" (C8.fnArgs st_law_seen) (C8.fnBody st_law_seen) (C8.fnScope st_law_seen) [] [] (He.ga K "_law_seen") fd := c.def_ 40 (d := dD "_law_seen" st_law_seen) rfl
theorem bn_law_seen {fd : FuncData} (F : FunD K "_law_seen" "_law_seen" (C8.fnArgs st_law_seen) (C8.fnBody st_law_seen) (C8.fnScope st_law_seen) [] [] f fd) : Binds K fd ["_law_web_here", "_law_room", "_law_row"] [] := F.bindsN (ps := ["_law_web_here", "_law_room", "_law_row"]) fun _ _ _ _ _ _ us hl => match us, hl with | [_, _, _], _ => rfl
theorem fn_law_bars (c : He.SaysD fas fns K) : ∃ fd, FunD K "_law_bars" "_law_bars" (C8.fnArgs st_law_bars) (C8.fnBody st_law_bars) (C8.fnScope st_law_bars) [] [] (He.ga K "_law_bars") fd := c.def_ 41 (d := dD "_law_bars" st_law_bars) rfl
theorem bn_law_bars {fd : FuncData} (F : FunD K "_law_bars" "_law_bars" (C8.fnArgs st_law_bars) (C8.fnBody st_law_bars) (C8.fnScope st_law_bars) [] [] f fd) : Binds K fd ["_law_web_here", "_law_one", "_law_other", "_law_delay", "_law_lot"] [] := F.bindsN (ps := ["_law_web_here", "_law_one", "_law_other", "_law_delay", "_law_lot"]) fun _ _ _ _ _ _ us hl => match us, hl with | [_, _, _, _, _], _ => rfl
theorem fn_law_rows_told (c : He.SaysD fas fns K) : ∃ fd, FunD K "_law_rows_told" "_law_rows_told" (C8.fnArgs st_law_rows_told) (C8.fnBody st_law_rows_told) (C8.fnScope st_law_rows_told) [] [] (He.ga K "_law_rows_told") fd := c.def_ 42 (d := dD "_law_rows_told" st_law_rows_told) rfl
theorem bn_law_rows_told {fd : FuncData} (F : FunD K "_law_rows_told" "_law_rows_told" (C8.fnArgs st_law_rows_told) (C8.fnBody st_law_rows_told) (C8.fnScope st_law_rows_told) [] [] f fd) : Binds K fd ["_law_row", "_law_web_here", "_law_one", "_law_other", "_law_least", "_law_near_here"] [] := F.bindsN (ps := ["_law_row", "_law_web_here", "_law_one", "_law_other", "_law_least", "_law_near_here"]) fun _ _ _ _ _ _ us hl => match us, hl with | [_, _, _, _, _, _], _ => rfl
theorem fn_law (c : He.SaysD fas fns K) : ∃ fd, FunD K "law" "law" (C8.fnArgs st_law) (C8.fnBody st_law) (C8.fnScope st_law) [] [] (He.ga K "law") fd := c.def_ 43 (d := dD "law" st_law) rfl
theorem bn_law {fd : FuncData} (F : FunD K "law" "law" (C8.fnArgs st_law) (C8.fnBody st_law) (C8.fnScope st_law) [] [] f fd) (s : Shared) (u : Value) : BindsTo s fd ⟨[u], []⟩ [("_law_script", u)] := F.bindsA (ps := ["_law_script"]) (fun _ _ _ _ _ _ us hl => match us, hl with | [_], _ => rfl) s [u] rfl
theorem law_at (X : K.In h) (G : h.Ns mainGlobals mg) (hfa : mg ("law" : Str) = some (.ref f)) (c : He.SaysX fas fns [] tbs (fun _ => true) w h K) : LamX.LawAtS PySem.Challenge.rw_shrinkweb_k02_whole_shrinks w K CX0 11 63 "_law_script" mg f h := by
  have cd := c.t.d
  have gl := glob_of X G cd
  have un := unl_of X G cd
  obtain ⟨d_is_number, X_is_number⟩ := fn_is_number cd
  have g_is_number : mg ("is_number" : Str) = some (.ref (He.ga K "is_number")) := He.glo_ok X G (cd.fact 0 (f := .glo "is_number") rfl)
  have F_is_number := def_of X_is_number g_is_number
  have b_is_number := bn_is_number X_is_number
  obtain ⟨d_are_doors, X_are_doors⟩ := fn_are_doors cd
  have g_are_doors : mg ("are_doors" : Str) = some (.ref (He.ga K "are_doors")) := He.glo_ok X G (cd.fact 1 (f := .glo "are_doors") rfl)
  have F_are_doors := def_of X_are_doors g_are_doors
  have b_are_doors := bn_are_doors X_are_doors
  obtain ⟨d_leads_back, X_leads_back⟩ := fn_leads_back cd
  have g_leads_back : mg ("leads_back" : Str) = some (.ref (He.ga K "leads_back")) := He.glo_ok X G (cd.fact 2 (f := .glo "leads_back") rfl)
  have F_leads_back := def_of X_leads_back g_leads_back
  have b_leads_back := bn_leads_back X_leads_back
  obtain ⟨d_rooms_from, X_rooms_from⟩ := fn_rooms_from cd
  have g_rooms_from : mg ("rooms_from" : Str) = some (.ref (He.ga K "rooms_from")) := He.glo_ok X G (cd.fact 3 (f := .glo "rooms_from") rfl)
  have F_rooms_from := def_of X_rooms_from g_rooms_from
  have b_rooms_from := bn_rooms_from X_rooms_from
  obtain ⟨d_need_web, X_need_web⟩ := fn_need_web cd
  have g_need_web : mg ("need_web" : Str) = some (.ref (He.ga K "need_web")) := He.glo_ok X G (cd.fact 4 (f := .glo "need_web") rfl)
  have F_need_web := def_of X_need_web g_need_web
  have b_need_web := bn_need_web X_need_web
  obtain ⟨d_need_room, X_need_room⟩ := fn_need_room cd
  have g_need_room : mg ("need_room" : Str) = some (.ref (He.ga K "need_room")) := He.glo_ok X G (cd.fact 5 (f := .glo "need_room") rfl)
  have F_need_room := def_of X_need_room g_need_room
  have b_need_room := bn_need_room X_need_room
  obtain ⟨d_need_two, X_need_two⟩ := fn_need_two cd
  have g_need_two : mg ("need_two" : Str) = some (.ref (He.ga K "need_two")) := He.glo_ok X G (cd.fact 6 (f := .glo "need_two") rfl)
  have F_need_two := def_of X_need_two g_need_two
  have b_need_two := bn_need_two X_need_two
  obtain ⟨d_need_delay, X_need_delay⟩ := fn_need_delay cd
  have g_need_delay : mg ("need_delay" : Str) = some (.ref (He.ga K "need_delay")) := He.glo_ok X G (cd.fact 7 (f := .glo "need_delay") rfl)
  have F_need_delay := def_of X_need_delay g_need_delay
  have b_need_delay := bn_need_delay X_need_delay
  obtain ⟨d_is_row, X_is_row⟩ := fn_is_row cd
  have g_is_row : mg ("is_row" : Str) = some (.ref (He.ga K "is_row")) := He.glo_ok X G (cd.fact 8 (f := .glo "is_row") rfl)
  have F_is_row := def_of X_is_row g_is_row
  have b_is_row := bn_is_row X_is_row
  obtain ⟨d_seen_on, X_seen_on⟩ := fn_seen_on cd
  have g_seen_on : mg ("seen_on" : Str) = some (.ref (He.ga K "seen_on")) := He.glo_ok X G (cd.fact 9 (f := .glo "seen_on") rfl)
  have F_seen_on := def_of X_seen_on g_seen_on
  have b_seen_on := bn_seen_on X_seen_on
  obtain ⟨d_lots_of, X_lots_of⟩ := fn_lots_of cd
  have g_lots_of : mg ("lots_of" : Str) = some (.ref (He.ga K "lots_of")) := He.glo_ok X G (cd.fact 10 (f := .glo "lots_of") rfl)
  have F_lots_of := def_of X_lots_of g_lots_of
  have b_lots_of := bn_lots_of X_lots_of
  obtain ⟨d_pairs_from, X_pairs_from⟩ := fn_pairs_from cd
  have g_pairs_from : mg ("pairs_from" : Str) = some (.ref (He.ga K "pairs_from")) := He.glo_ok X G (cd.fact 11 (f := .glo "pairs_from") rfl)
  have F_pairs_from := def_of X_pairs_from g_pairs_from
  have b_pairs_from := bn_pairs_from X_pairs_from
  obtain ⟨d_far, X_far⟩ := fn_far cd
  have g_far : mg ("far" : Str) = some (.ref (He.ga K "far")) := He.glo_ok X G (cd.fact 12 (f := .glo "far") rfl)
  have F_far := def_of X_far g_far
  have b_far := bn_far X_far
  obtain ⟨d_near_rows, X_near_rows⟩ := fn_near_rows cd
  have g_near_rows : mg ("near_rows" : Str) = some (.ref (He.ga K "near_rows")) := He.glo_ok X G (cd.fact 13 (f := .glo "near_rows") rfl)
  have F_near_rows := def_of X_near_rows g_near_rows
  have b_near_rows := bn_near_rows X_near_rows
  obtain ⟨d_need_alike, X_need_alike⟩ := fn_need_alike cd
  have g_need_alike : mg ("need_alike" : Str) = some (.ref (He.ga K "need_alike")) := He.glo_ok X G (cd.fact 14 (f := .glo "need_alike") rfl)
  have F_need_alike := def_of X_need_alike g_need_alike
  have b_need_alike := bn_need_alike X_need_alike
  obtain ⟨d_shrink, X_shrink⟩ := fn_shrink cd
  have g_shrink : mg ("shrink" : Str) = some (.ref (He.ga K "shrink")) := He.glo_ok X G (cd.fact 15 (f := .glo "shrink") rfl)
  have F_shrink := def_of X_shrink g_shrink
  have b_shrink := bn_shrink X_shrink
  obtain ⟨d_shrink_row, X_shrink_row⟩ := fn_shrink_row cd
  have g_shrink_row : mg ("shrink_row" : Str) = some (.ref (He.ga K "shrink_row")) := He.glo_ok X G (cd.fact 16 (f := .glo "shrink_row") rfl)
  have F_shrink_row := def_of X_shrink_row g_shrink_row
  have b_shrink_row := bn_shrink_row X_shrink_row
  obtain ⟨d_shows_shrink_row, X_shows_shrink_row⟩ := fn_shows_shrink_row cd
  have g_shows_shrink_row : mg ("shows_shrink_row" : Str) = some (.ref (He.ga K "shows_shrink_row")) := He.glo_ok X G (cd.fact 17 (f := .glo "shows_shrink_row") rfl)
  have F_shows_shrink_row := def_of X_shows_shrink_row g_shows_shrink_row
  have b_shows_shrink_row := bn_shows_shrink_row X_shows_shrink_row
  obtain ⟨d_least_delay_of, X_least_delay_of⟩ := fn_least_delay_of cd
  have g_least_delay_of : mg ("least_delay_of" : Str) = some (.ref (He.ga K "least_delay_of")) := He.glo_ok X G (cd.fact 18 (f := .glo "least_delay_of") rfl)
  have F_least_delay_of := def_of X_least_delay_of g_least_delay_of
  have b_least_delay_of := bn_least_delay_of X_least_delay_of
  obtain ⟨d_least_delay, X_least_delay⟩ := fn_least_delay cd
  have g_least_delay : mg ("least_delay" : Str) = some (.ref (He.ga K "least_delay")) := He.glo_ok X G (cd.fact 19 (f := .glo "least_delay") rfl)
  have F_least_delay := def_of X_least_delay g_least_delay
  have b_least_delay := bn_least_delay X_least_delay
  obtain ⟨d_can_meet, X_can_meet⟩ := fn_can_meet cd
  have g_can_meet : mg ("can_meet" : Str) = some (.ref (He.ga K "can_meet")) := He.glo_ok X G (cd.fact 20 (f := .glo "can_meet") rfl)
  have F_can_meet := def_of X_can_meet g_can_meet
  have b_can_meet := bn_can_meet X_can_meet
  obtain ⟨d_worst_delay, X_worst_delay⟩ := fn_worst_delay cd
  have g_worst_delay : mg ("worst_delay" : Str) = some (.ref (He.ga K "worst_delay")) := He.glo_ok X G (cd.fact 21 (f := .glo "worst_delay") rfl)
  have F_worst_delay := def_of X_worst_delay g_worst_delay
  have b_worst_delay := bn_worst_delay X_worst_delay
  obtain ⟨d_barring_lot, X_barring_lot⟩ := fn_barring_lot cd
  have g_barring_lot : mg ("barring_lot" : Str) = some (.ref (He.ga K "barring_lot")) := He.glo_ok X G (cd.fact 22 (f := .glo "barring_lot") rfl)
  have F_barring_lot := def_of X_barring_lot g_barring_lot
  have b_barring_lot := bn_barring_lot X_barring_lot
  obtain ⟨d_is_lot, X_is_lot⟩ := fn_is_lot cd
  have g_is_lot : mg ("is_lot" : Str) = some (.ref (He.ga K "is_lot")) := He.glo_ok X G (cd.fact 23 (f := .glo "is_lot") rfl)
  have F_is_lot := def_of X_is_lot g_is_lot
  have b_is_lot := bn_is_lot X_is_lot
  obtain ⟨d_shows_barring_lot, X_shows_barring_lot⟩ := fn_shows_barring_lot cd
  have g_shows_barring_lot : mg ("shows_barring_lot" : Str) = some (.ref (He.ga K "shows_barring_lot")) := He.glo_ok X G (cd.fact 24 (f := .glo "shows_barring_lot") rfl)
  have F_shows_barring_lot := def_of X_shows_barring_lot g_shows_barring_lot
  have b_shows_barring_lot := bn_shows_barring_lot X_shows_barring_lot
  obtain ⟨d_law_taken, X_law_taken⟩ := fn_law_taken cd
  have g_law_taken : mg ("_law_taken" : Str) = some (.ref (He.ga K "_law_taken")) := He.glo_ok X G (cd.fact 25 (f := .glo "_law_taken") rfl)
  have F_law_taken := def_of X_law_taken g_law_taken
  have b_law_taken := bn_law_taken X_law_taken
  obtain ⟨d_law_cayley, X_law_cayley⟩ := fn_law_cayley cd
  have g_law_cayley : mg ("_law_cayley" : Str) = some (.ref (He.ga K "_law_cayley")) := He.glo_ok X G (cd.fact 26 (f := .glo "_law_cayley") rfl)
  have F_law_cayley := def_of X_law_cayley g_law_cayley
  have b_law_cayley := bn_law_cayley X_law_cayley
  obtain ⟨d_law_linked, X_law_linked⟩ := fn_law_linked cd
  have g_law_linked : mg ("_law_linked" : Str) = some (.ref (He.ga K "_law_linked")) := He.glo_ok X G (cd.fact 27 (f := .glo "_law_linked") rfl)
  have F_law_linked := def_of X_law_linked g_law_linked
  have b_law_linked := bn_law_linked X_law_linked
  obtain ⟨d_law_doubled, X_law_doubled⟩ := fn_law_doubled cd
  have g_law_doubled : mg ("_law_doubled" : Str) = some (.ref (He.ga K "_law_doubled")) := He.glo_ok X G (cd.fact 28 (f := .glo "_law_doubled") rfl)
  have F_law_doubled := def_of X_law_doubled g_law_doubled
  have b_law_doubled := bn_law_doubled X_law_doubled
  obtain ⟨d_law_pick, X_law_pick⟩ := fn_law_pick cd
  have g_law_pick : mg ("_law_pick" : Str) = some (.ref (He.ga K "_law_pick")) := He.glo_ok X G (cd.fact 29 (f := .glo "_law_pick") rfl)
  have F_law_pick := def_of X_law_pick g_law_pick
  have b_law_pick := bn_law_pick X_law_pick
  obtain ⟨d_law_drawn, X_law_drawn⟩ := fn_law_drawn cd
  have g_law_drawn : mg ("_law_drawn" : Str) = some (.ref (He.ga K "_law_drawn")) := He.glo_ok X G (cd.fact 30 (f := .glo "_law_drawn") rfl)
  have F_law_drawn := def_of X_law_drawn g_law_drawn
  have b_law_drawn := bn_law_drawn X_law_drawn
  obtain ⟨d_law_mixed, X_law_mixed⟩ := fn_law_mixed cd
  have g_law_mixed : mg ("_law_mixed" : Str) = some (.ref (He.ga K "_law_mixed")) := He.glo_ok X G (cd.fact 31 (f := .glo "_law_mixed") rfl)
  have F_law_mixed := def_of X_law_mixed g_law_mixed
  have b_law_mixed := bn_law_mixed X_law_mixed
  obtain ⟨d_law_schreier, X_law_schreier⟩ := fn_law_schreier cd
  have g_law_schreier : mg ("_law_schreier" : Str) = some (.ref (He.ga K "_law_schreier")) := He.glo_ok X G (cd.fact 32 (f := .glo "_law_schreier") rfl)
  have F_law_schreier := def_of X_law_schreier g_law_schreier
  have b_law_schreier := bn_law_schreier X_law_schreier
  obtain ⟨d_law_web, X_law_web⟩ := fn_law_web cd
  have g_law_web : mg ("_law_web" : Str) = some (.ref (He.ga K "_law_web")) := He.glo_ok X G (cd.fact 33 (f := .glo "_law_web") rfl)
  have F_law_web := def_of X_law_web g_law_web
  have b_law_web := bn_law_web X_law_web
  obtain ⟨d_law_unlike, X_law_unlike⟩ := fn_law_unlike cd
  have g_law_unlike : mg ("_law_unlike" : Str) = some (.ref (He.ga K "_law_unlike")) := He.glo_ok X G (cd.fact 34 (f := .glo "_law_unlike") rfl)
  have F_law_unlike := def_of X_law_unlike g_law_unlike
  have b_law_unlike := bn_law_unlike X_law_unlike
  obtain ⟨d_law_two, X_law_two⟩ := fn_law_two cd
  have g_law_two : mg ("_law_two" : Str) = some (.ref (He.ga K "_law_two")) := He.glo_ok X G (cd.fact 35 (f := .glo "_law_two") rfl)
  have F_law_two := def_of X_law_two g_law_two
  have b_law_two := bn_law_two X_law_two
  obtain ⟨d_law_pairs, X_law_pairs⟩ := fn_law_pairs cd
  have g_law_pairs : mg ("_law_pairs" : Str) = some (.ref (He.ga K "_law_pairs")) := He.glo_ok X G (cd.fact 36 (f := .glo "_law_pairs") rfl)
  have F_law_pairs := def_of X_law_pairs g_law_pairs
  have b_law_pairs := bn_law_pairs X_law_pairs
  obtain ⟨d_law_far, X_law_far⟩ := fn_law_far cd
  have g_law_far : mg ("_law_far" : Str) = some (.ref (He.ga K "_law_far")) := He.glo_ok X G (cd.fact 37 (f := .glo "_law_far") rfl)
  have F_law_far := def_of X_law_far g_law_far
  have b_law_far := bn_law_far X_law_far
  obtain ⟨d_law_near, X_law_near⟩ := fn_law_near cd
  have g_law_near : mg ("_law_near" : Str) = some (.ref (He.ga K "_law_near")) := He.glo_ok X G (cd.fact 38 (f := .glo "_law_near") rfl)
  have F_law_near := def_of X_law_near g_law_near
  have b_law_near := bn_law_near X_law_near
  obtain ⟨d_law_alike, X_law_alike⟩ := fn_law_alike cd
  have g_law_alike : mg ("_law_alike" : Str) = some (.ref (He.ga K "_law_alike")) := He.glo_ok X G (cd.fact 39 (f := .glo "_law_alike") rfl)
  have F_law_alike := def_of X_law_alike g_law_alike
  have b_law_alike := bn_law_alike X_law_alike
  obtain ⟨d_law_seen, X_law_seen⟩ := fn_law_seen cd
  have g_law_seen : mg ("_law_seen" : Str) = some (.ref (He.ga K "_law_seen")) := He.glo_ok X G (cd.fact 40 (f := .glo "_law_seen") rfl)
  have F_law_seen := def_of X_law_seen g_law_seen
  have b_law_seen := bn_law_seen X_law_seen
  obtain ⟨d_law_bars, X_law_bars⟩ := fn_law_bars cd
  have g_law_bars : mg ("_law_bars" : Str) = some (.ref (He.ga K "_law_bars")) := He.glo_ok X G (cd.fact 41 (f := .glo "_law_bars") rfl)
  have F_law_bars := def_of X_law_bars g_law_bars
  have b_law_bars := bn_law_bars X_law_bars
  obtain ⟨d_law_rows_told, X_law_rows_told⟩ := fn_law_rows_told cd
  have g_law_rows_told : mg ("_law_rows_told" : Str) = some (.ref (He.ga K "_law_rows_told")) := He.glo_ok X G (cd.fact 42 (f := .glo "_law_rows_told") rfl)
  have F_law_rows_told := def_of X_law_rows_told g_law_rows_told
  have b_law_rows_told := bn_law_rows_told X_law_rows_told
  obtain ⟨d_law, X_law⟩ := fn_law cd
  have g_law : mg ("law" : Str) = some (.ref (He.ga K "law")) := He.glo_ok X G (cd.fact 43 (f := .glo "law") rfl)
  have F_law := def_of X_law g_law
  obtain rfl : f = He.ga K "law" := by
    have e := hfa.symm.trans g_law
    exact Value.ref.inj (Option.some.inj e)
  refine ⟨d_law, tbs.map (He.cT K), spLaw K ((tbs.map (He.cT K)).map (·.2)), fun p hp => ?_, fun p hp => ?_, fun p hp => ?_, bn_law X_law, fun H a ns _ _ hH hS => ⟨a, ns, rfl, hS, fun p hp => ?_, fun _ => rfl⟩, fun base KB GB TB => ?_⟩
  · obtain ⟨q, hq, rfl⟩ := List.mem_map.mp hp
    exact c.empty q hq
  · obtain ⟨q, hq, rfl⟩ := List.mem_map.mp hp
    exact c.out q hq
  · obtain ⟨q, hq, rfl⟩ := List.mem_map.mp hp
    exact PySem.W.codeHd_of_K X (c.hd q hq)
  · obtain ⟨q, hq, rfl⟩ := List.mem_map.mp hp
    exact ⟨#[], hH q hq, trivial⟩
  · have mt : ∀ q ∈ tbs, He.cT K q ∈ tbs.map (He.cT K) := fun q hq => List.mem_map.mpr ⟨q, hq, rfl⟩
    have mp : ∀ q ∈ tbs, (He.cT K q).2 ∈ (tbs.map (He.cT K)).map (·.2) := fun q hq => List.mem_map.mpr ⟨_, mt q hq, rfl⟩
    have m_need_web : (("need_web", none) : He.Defn) ∈ tbs := List.mem_cons_self
    have m_is_row : (("is_row", none) : He.Defn) ∈ tbs := List.mem_cons_of_mem _ List.mem_cons_self
    have m_is_lot : (("is_lot", none) : He.Defn) ∈ tbs := List.mem_cons_of_mem _ (List.mem_cons_of_mem _ List.mem_cons_self)
    have z_law_alike := cal_alike (P := PySem.Challenge.rw_shrinkweb_k02_whole_shrinks.prog) (w := w) (base := base) (n := 0) (m := 0) F_law_alike b_law_alike gl (cal_false F_law_alike b_law_alike) (fun k x y H Q E e => by omega)
    have c_law_alike1 := cal_alike (n := 1) (m := 1) F_law_alike b_law_alike gl z_law_alike (fun k x y H Q E e hs q => by obtain rfl : k = 0 := (by omega); exact ⟨x, y, rfl, hs, q⟩)
    have c_law_alike := cal_alike (n := 2) (m := 2) F_law_alike b_law_alike gl c_law_alike1 (fun k x y H Q E e hs q => by obtain rfl : k = 1 := (by omega); exact ⟨x, y, rfl, hs, q⟩)
    have c_is_number := cal_is_number (P := PySem.Challenge.rw_shrinkweb_k02_whole_shrinks.prog) (w := w) (base := base) F_is_number b_is_number gl
    have c_are_doors := cal_are_doors (P := PySem.Challenge.rw_shrinkweb_k02_whole_shrinks.prog) (w := w) (base := base) F_are_doors b_are_doors gl c_is_number
    have c_leads_back := cal_leads_back (P := PySem.Challenge.rw_shrinkweb_k02_whole_shrinks.prog) (w := w) (base := base) F_leads_back b_leads_back gl
    have c_rooms_from := cal_rooms_from (P := PySem.Challenge.rw_shrinkweb_k02_whole_shrinks.prog) (w := w) (base := base) F_rooms_from b_rooms_from gl
    have c_need_web := cal_need_web (P := PySem.Challenge.rw_shrinkweb_k02_whole_shrinks.prog) (w := w) (base := base) (Tl := (tbs.map (He.cT K)).map (·.2)) F_need_web (code_of X_need_web) (tab_of (TB _ (mt _ m_need_web))) (mp _ m_need_web) b_need_web gl c_are_doors c_leads_back c_rooms_from
    have c_need_room := cal_need_room (P := PySem.Challenge.rw_shrinkweb_k02_whole_shrinks.prog) (w := w) (base := base) F_need_room b_need_room gl c_is_number
    have c_need_two := cal_need_two (P := PySem.Challenge.rw_shrinkweb_k02_whole_shrinks.prog) (w := w) (base := base) (Tl := (tbs.map (He.cT K)).map (·.2)) F_need_two b_need_two gl c_need_web c_need_room
    have c_need_delay := cal_need_delay (P := PySem.Challenge.rw_shrinkweb_k02_whole_shrinks.prog) (w := w) (base := base) F_need_delay b_need_delay gl c_is_number
    have c_is_row := cal_is_row (P := PySem.Challenge.rw_shrinkweb_k02_whole_shrinks.prog) (w := w) (base := base) (Tl := (tbs.map (He.cT K)).map (·.2)) F_is_row (code_of X_is_row) (tab_of (TB _ (mt _ m_is_row))) (mp _ m_is_row) b_is_row gl c_is_number
    have c_seen_on := cal_seen_on (P := PySem.Challenge.rw_shrinkweb_k02_whole_shrinks.prog) (w := w) (base := base) F_seen_on b_seen_on gl
    have c_lots_of := cal_lots_of (P := PySem.Challenge.rw_shrinkweb_k02_whole_shrinks.prog) (w := w) (base := base) F_lots_of b_lots_of gl
    have c_pairs_from := cal_pairs_from (P := PySem.Challenge.rw_shrinkweb_k02_whole_shrinks.prog) (w := w) (base := base) F_pairs_from b_pairs_from gl
    have c_far := cal_far (P := PySem.Challenge.rw_shrinkweb_k02_whole_shrinks.prog) (w := w) (base := base) F_far b_far gl c_rooms_from
    have c_near_rows := cal_near_rows (P := PySem.Challenge.rw_shrinkweb_k02_whole_shrinks.prog) (w := w) (base := base) F_near_rows b_near_rows gl c_pairs_from c_far
    have c_need_alike := cal_need_alike (P := PySem.Challenge.rw_shrinkweb_k02_whole_shrinks.prog) (w := w) (base := base) (Tl := (tbs.map (He.cT K)).map (·.2)) F_need_alike b_need_alike gl c_need_two c_lots_of
    have c_shrink := cal_shrink (P := PySem.Challenge.rw_shrinkweb_k02_whole_shrinks.prog) (w := w) (base := base) (Tl := (tbs.map (He.cT K)).map (·.2)) F_shrink b_shrink gl c_need_alike c_near_rows
    have c_shrink_row := cal_shrink_row (P := PySem.Challenge.rw_shrinkweb_k02_whole_shrinks.prog) (w := w) (base := base) (Tl := (tbs.map (He.cT K)).map (·.2)) F_shrink_row b_shrink_row gl c_need_alike c_near_rows
    have c_shows_shrink_row := cal_shows_shrink_row (P := PySem.Challenge.rw_shrinkweb_k02_whole_shrinks.prog) (w := w) (base := base) (Tl := (tbs.map (He.cT K)).map (·.2)) F_shows_shrink_row b_shows_shrink_row gl c_need_alike c_near_rows c_is_row c_seen_on c_far
    have c_least_delay_of := cal_least_delay_of (P := PySem.Challenge.rw_shrinkweb_k02_whole_shrinks.prog) (w := w) (base := base) F_least_delay_of b_least_delay_of gl c_lots_of c_near_rows
    have c_least_delay := cal_least_delay (P := PySem.Challenge.rw_shrinkweb_k02_whole_shrinks.prog) (w := w) (base := base) (Tl := (tbs.map (He.cT K)).map (·.2)) F_least_delay b_least_delay gl c_need_two c_least_delay_of
    have c_can_meet := cal_can_meet (P := PySem.Challenge.rw_shrinkweb_k02_whole_shrinks.prog) (w := w) (base := base) (Tl := (tbs.map (He.cT K)).map (·.2)) F_can_meet b_can_meet gl c_need_two c_need_delay c_least_delay_of
    have c_worst_delay := cal_worst_delay (P := PySem.Challenge.rw_shrinkweb_k02_whole_shrinks.prog) (w := w) (base := base) (Tl := (tbs.map (He.cT K)).map (·.2)) F_worst_delay b_worst_delay gl c_need_web c_least_delay_of
    have c_barring_lot := cal_barring_lot (P := PySem.Challenge.rw_shrinkweb_k02_whole_shrinks.prog) (w := w) (base := base) (Tl := (tbs.map (He.cT K)).map (·.2)) F_barring_lot b_barring_lot gl c_need_two c_need_delay c_least_delay_of c_pairs_from
    have c_is_lot := cal_is_lot (P := PySem.Challenge.rw_shrinkweb_k02_whole_shrinks.prog) (w := w) (base := base) (Tl := (tbs.map (He.cT K)).map (·.2)) F_is_lot (code_of X_is_lot) (tab_of (TB _ (mt _ m_is_lot))) (mp _ m_is_lot) b_is_lot gl c_is_number
    have c_shows_barring_lot := cal_shows_barring_lot (P := PySem.Challenge.rw_shrinkweb_k02_whole_shrinks.prog) (w := w) (base := base) (Tl := (tbs.map (He.cT K)).map (·.2)) F_shows_barring_lot b_shows_barring_lot gl c_need_two c_need_delay c_least_delay_of c_is_lot c_far
    have c_law_taken := cal_law_taken (P := PySem.Challenge.rw_shrinkweb_k02_whole_shrinks.prog) (w := w) (base := base) F_law_taken b_law_taken gl
    have c_law_cayley := cal_law_cayley (P := PySem.Challenge.rw_shrinkweb_k02_whole_shrinks.prog) (w := w) (base := base) F_law_cayley b_law_cayley gl c_law_taken
    have c_law_linked := cal_law_linked (P := PySem.Challenge.rw_shrinkweb_k02_whole_shrinks.prog) (w := w) (base := base) F_law_linked b_law_linked gl
    have c_law_doubled := cal_law_doubled (P := PySem.Challenge.rw_shrinkweb_k02_whole_shrinks.prog) (w := w) (base := base) F_law_doubled b_law_doubled gl c_law_taken c_law_linked
    have c_law_pick := cal_law_pick (P := PySem.Challenge.rw_shrinkweb_k02_whole_shrinks.prog) (w := w) (base := base) F_law_pick b_law_pick gl c_law_taken
    have c_law_drawn := cal_law_drawn (P := PySem.Challenge.rw_shrinkweb_k02_whole_shrinks.prog) (w := w) (base := base) F_law_drawn b_law_drawn gl c_law_taken c_law_pick c_law_linked
    have c_law_mixed := cal_law_mixed (P := PySem.Challenge.rw_shrinkweb_k02_whole_shrinks.prog) (w := w) (base := base) F_law_mixed b_law_mixed gl c_law_taken
    have c_law_schreier := cal_law_schreier (P := PySem.Challenge.rw_shrinkweb_k02_whole_shrinks.prog) (w := w) (base := base) F_law_schreier b_law_schreier gl c_law_taken c_law_mixed c_law_cayley
    have c_law_web := cal_law_web (P := PySem.Challenge.rw_shrinkweb_k02_whole_shrinks.prog) (w := w) (base := base) F_law_web b_law_web gl c_law_taken c_law_schreier c_law_cayley c_law_doubled c_law_drawn
    have c_law_unlike := cal_law_unlike (P := PySem.Challenge.rw_shrinkweb_k02_whole_shrinks.prog) (w := w) (base := base) F_law_unlike b_law_unlike gl
    have c_law_two := cal_law_two (P := PySem.Challenge.rw_shrinkweb_k02_whole_shrinks.prog) (w := w) (base := base) F_law_two b_law_two gl c_law_unlike c_law_pick
    have c_law_pairs := cal_law_pairs (P := PySem.Challenge.rw_shrinkweb_k02_whole_shrinks.prog) (w := w) (base := base) F_law_pairs b_law_pairs gl
    have c_law_far := cal_law_far (P := PySem.Challenge.rw_shrinkweb_k02_whole_shrinks.prog) (w := w) (base := base) F_law_far b_law_far gl
    have c_law_near := cal_law_near (P := PySem.Challenge.rw_shrinkweb_k02_whole_shrinks.prog) (w := w) (base := base) F_law_near b_law_near gl c_law_pairs c_law_far
    have c_law_seen := cal_law_seen (P := PySem.Challenge.rw_shrinkweb_k02_whole_shrinks.prog) (w := w) (base := base) F_law_seen b_law_seen gl
    have c_law_bars := cal_law_bars (P := PySem.Challenge.rw_shrinkweb_k02_whole_shrinks.prog) (w := w) (base := base) F_law_bars b_law_bars gl c_law_far
    have c_law_rows_told := cal_law_rows_told (P := PySem.Challenge.rw_shrinkweb_k02_whole_shrinks.prog) (w := w) (base := base) (Tl := (tbs.map (He.cT K)).map (·.2)) F_law_rows_told b_law_rows_told gl c_shrink_row c_shrink c_shows_shrink_row c_law_far c_law_seen c_law_taken z_law_alike
    have x_need_alike := fx_need_alike (P := PySem.Challenge.rw_shrinkweb_k02_whole_shrinks.prog) (w := w) (base := base) (Tl := (tbs.map (He.cT K)).map (·.2)) un F_need_alike gl c_need_two c_lots_of
    have x_shrink := fx_shrink F_shrink gl x_need_alike g_need_alike X_need_alike.kp b_need_alike c_near_rows
    exact ok_law un F_law gl x_shrink g_shrink X_shrink.kp b_shrink c_law_web c_law_two c_law_taken c_law_near c_law_alike c_least_delay c_can_meet c_law_unlike c_worst_delay c_law_rows_told c_barring_lot c_shows_barring_lot c_law_pairs c_law_bars
end
end K2
open PySem PySem.W PySem.Calls PyProof.Rows
theorem PySem.Challenge.cw_shrinkweb_k02_whole_shrinks_holds : PySem.Challenge.rw_shrinkweb_k02_whole_shrinks.Holds := by
  w_on; o_law
  refine HandSHeadRun.head_any (r := OpenLaw.row PySem.Challenge.rw_shrinkweb_k02_whole_shrinks) (q := view (OpenLaw.row PySem.Challenge.rw_shrinkweb_k02_whole_shrinks).prog [58]) (H := K2.hk) (ob := K2.ob) (M := 4000) (loose := K2.loose) (d := HandSHeadRun.topDef (OpenLaw.row PySem.Challenge.rw_shrinkweb_k02_whole_shrinks).prog 58) (kwd := []) K2.ob_eq
    (by kernel_rfl) (fun s => by kernel_rfl) K2.runH (by kernel_rfl) (by kernel_rfl) (by kernel_rfl) (by rfl) (by first | assumption | decide +kernel) (by decide +kernel) ⟨rfl, rfl, rfl, rfl, rfl, by decide +kernel⟩ ?hw ?hc
  case hw => w_witness2
  case hc =>
    refine LamX.walk_ofTsE (l := PySem.Challenge.rw_shrinkweb_k02_whole_shrinks) (n := 63) (k := 11) (x := "_law_script") (CX := fun _ => L2.CX0) rfl (by decide) (by kernel_rfl) ⟨rfl, by decide, by decide⟩ ?F (fun _ _ _ _ _ z => z)
    intro w mg fa h Y G hmg0
    obtain ⟨K, KX, c⟩ := Y
    have hmg : mg ("law" : PySem.Str) = some (.ref fa) := by
      have e : (HandSHeadRun.topDef (OpenLaw.row PySem.Challenge.rw_shrinkweb_k02_whole_shrinks).prog 58).name = ("law" : PySem.Str) := by kernel_rfl
      rw [← e]
      exact hmg0
    exact ⟨K, KX, K2.law_at KX G hmg c⟩
