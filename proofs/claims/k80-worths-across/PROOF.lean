import PyProof.Rows.All
import Wide.All
import OpenK.AllK
import Wide.FinOn
import HandS.ForMost
import HandS.IsInst
import HandS.TupAny
import HandS.TupMul
import HandS.Deep
import HandS.Conv
import HandS.Style
import HandS.Zip
import HandS.Walk
import HandS.SortInts
import HandS.SortRule
import KE.KDictZip
import KE.SortData
import KE.KDictDisplayH
import KE.KDictSum
import KE.KDictItemsList
import HandS.DictTup
import HandS.TupLen
import HandS.Star
import KE.KDictCopyH
import PySem.Challenge.RW_terraces_k80_worths_across
set_option Elab.async false
set_option linter.all false
set_option maxRecDepth 100000
set_option maxHeartbeats 4000000
/-! TWM: webs, layings: the mathematics. Core Lean alone. -/
namespace TW
structure WebOk (n : Nat) (hs : List (Nat × Nat)) : Prop where
  pos : 1 ≤ n
  small : n ≤ 6
  rng : ∀ h ∈ hs, h.1 < h.2 ∧ h.2 < n
  srt : hs.Pairwise (fun a b => a.1 < b.1 ∨ (a.1 = b.1 ∧ a.2 < b.2))
  par : ∃ par : Nat → Bool, ∀ h ∈ hs, par h.1 ≠ par h.2
  con : ∀ S : Nat → Prop, (∀ h ∈ hs, (S h.1 ↔ S h.2)) → S 0 → ∀ f, f < n → S f
  few : hs.length ≤ 100
/-- neighbors -/
def Adj (hs : List (Nat × Nat)) (a b : Nat) : Prop := (a, b) ∈ hs ∨ (b, a) ∈ hs
/-- a laying: as many heights as fields, neighbors one step apart, no height beyond a million -/
structure Lay (n : Nat) (hs : List (Nat × Nat)) (x : List Int) : Prop where
  len : x.length = n
  bnd : ∀ h ∈ x, -1000000 ≤ h ∧ h ≤ 1000000
  step : ∀ h ∈ hs, (x.getD h.1 0 - x.getD h.2 0).natAbs = 1
end TW

namespace TW
/-! ### neighbors -/
def rawN (hs : List (Nat × Nat)) (f : Nat) : List Nat := hs.flatMap fun h => (if h.1 = f then [h.2] else []) ++ (if h.2 = f then [h.1] else [])
def nbr (hs : List (Nat × Nat)) (f : Nat) : List Nat := (rawN hs f).mergeSort (fun a b => decide (a ≤ b))
def rowsAt (n : Nat) (hs : List (Nat × Nat)) : List (List Int) := (List.range n).map fun f => (rawN hs f).map fun (k : Nat) => (k : Int)
theorem rawN_append (l m : List (Nat × Nat)) (f : Nat) : rawN (l ++ m) f = rawN l f ++ rawN m f := by unfold rawN; rw [List.flatMap_append]
theorem mem_rawN {hs : List (Nat × Nat)} {f g : Nat} : g ∈ rawN hs f ↔ Adj hs f g := by
  unfold rawN Adj
  rw [List.mem_flatMap]
  constructor
  · rintro ⟨⟨a, b⟩, hm, h⟩
    rcases List.mem_append.mp h with h | h
    · by_cases e : a = f
      · rw [if_pos e] at h
        have : g = b := by simpa using h
        subst this e
        exact .inl hm
      · rw [if_neg e] at h; cases h
    · by_cases e : b = f
      · rw [if_pos e] at h
        have : g = a := by simpa using h
        subst this e
        exact .inr hm
      · rw [if_neg e] at h; cases h
  · rintro (h | h)
    · exact ⟨(f, g), h, List.mem_append_left _ (by rw [if_pos rfl]; simp)⟩
    · exact ⟨(g, f), h, List.mem_append_right _ (by rw [if_pos rfl]; simp)⟩
theorem mem_nbr {hs : List (Nat × Nat)} {f g : Nat} : g ∈ nbr hs f ↔ Adj hs f g := by unfold nbr; rw [List.mem_mergeSort, mem_rawN]
theorem nbr_perm (hs : List (Nat × Nat)) (f : Nat) : (nbr hs f).Perm (rawN hs f) := List.mergeSort_perm _ _
theorem nbr_sorted (hs : List (Nat × Nat)) (f : Nat) : (nbr hs f).Pairwise (fun a b => a ≤ b) := by
  have h : (nbr hs f).Pairwise (fun a b => decide (a ≤ b) = true) := List.pairwise_mergeSort (le := fun a b => decide (a ≤ b)) (fun a b c => by simp; omega) (fun a b => by simp; omega) _
  exact h.imp fun e => of_decide_eq_true e
theorem rawN_len (hs : List (Nat × Nat)) (f : Nat) : (rawN hs f).length ≤ 2 * hs.length := by
  unfold rawN
  induction hs with
  | nil => simp
  | cons h hs ih =>
    rw [List.flatMap_cons, List.length_append, List.length_append, List.length_cons]
    have h1 : (if h.1 = f then [h.2] else ([] : List Nat)).length ≤ 1 := by split <;> simp
    have h2 : (if h.2 = f then [h.1] else ([] : List Nat)).length ≤ 1 := by split <;> simp
    omega
theorem nbr_len (hs : List (Nat × Nat)) (f : Nat) : (nbr hs f).length ≤ 2 * hs.length := by rw [(nbr_perm hs f).length_eq]; exact rawN_len hs f
theorem rowsAt_nil (n : Nat) : rowsAt n [] = List.replicate n [] := by
  unfold rowsAt
  rw [show (fun f => (rawN [] f).map fun (k : Nat) => (k : Int)) = fun _ => ([] : List Int) from rfl, List.map_const', List.length_range]
theorem rowsAt_len (n : Nat) (hs : List (Nat × Nat)) : (rowsAt n hs).length = n := by simp [rowsAt]
theorem rowsAt_get {n : Nat} {hs : List (Nat × Nat)} {f : Nat} (h : f < n) : (rowsAt n hs)[f]? = some ((rawN hs f).map fun (k : Nat) => (k : Int)) := by simp [rowsAt, h]
theorem rowsAt_step {n : Nat} {l : List (Nat × Nat)} {a b : Nat} (ha : a < n) (hb : b < n) (hab : a ≠ b) :
    ((rowsAt n l).set a (((rawN l a).map fun (k : Nat) => (k : Int)) ++ [(b : Int)])).set b (((rawN l b).map fun (k : Nat) => (k : Int)) ++ [(a : Int)]) = rowsAt n (l ++ [(a, b)]) := by
  apply List.ext_getElem?
  intro f
  by_cases hf : f < n
  · rw [rowsAt_get hf, rawN_append]
    have e1 : rawN [(a, b)] f = (if a = f then [b] else []) ++ (if b = f then [a] else []) := by simp [rawN]
    rw [e1]
    by_cases h1 : b = f
    · subst h1
      rw [List.getElem?_set_self (by rw [List.length_set, rowsAt_len]; exact hf), if_neg hab, if_pos rfl]
      simp
    · rw [List.getElem?_set_ne h1]
      by_cases h2 : a = f
      · subst h2
        rw [List.getElem?_set_self (by rw [rowsAt_len]; exact hf), if_pos rfl, if_neg h1]
        simp
      · rw [List.getElem?_set_ne h2, rowsAt_get hf, if_neg h1, if_neg h2]
        simp
  · rw [List.getElem?_eq_none (by simp [rowsAt_len]; omega), List.getElem?_eq_none (by simp [rowsAt_len]; omega)]
end TW

namespace TW
/-! ### lists without doubles -/
theorem nodup_sub_len {α : Type} [DecidableEq α] : ∀ {l m : List α}, l.Nodup → (∀ x ∈ l, x ∈ m) → l.length ≤ m.length
  | [], _, _, _ => Nat.zero_le _
  | x :: r, m, nd, h => by
    have hx : x ∈ m := h x List.mem_cons_self
    rw [List.nodup_cons] at nd
    have ih := nodup_sub_len (l := r) (m := m.erase x) nd.2 fun y hy => (List.mem_erase_of_ne (show y ≠ x from fun e => nd.1 (e ▸ hy))).mpr (h y (List.mem_cons_of_mem _ hy))
    rw [List.length_erase_of_mem hx] at ih
    have := List.length_pos_of_mem hx
    rw [List.length_cons]
    omega
theorem nodup_le {n : Nat} {l : List Nat} (nd : l.Nodup) (h : ∀ x ∈ l, x < n) : l.length ≤ n := by
  have := nodup_sub_len (m := List.range n) nd fun x hx => List.mem_range.mpr (h x hx)
  rwa [List.length_range] at this
theorem nodup_snoc {l : List Nat} {x : Nat} (nd : l.Nodup) (h : x ∉ l) : (l ++ [x]).Nodup := by
  rw [List.nodup_append]
  exact ⟨nd, by simp, fun a ha b hb => by
    have : b = x := by simpa using hb
    subst this
    exact fun e => h (e ▸ ha)⟩
theorem Adj.symm {hs : List (Nat × Nat)} {a b : Nat} (h : Adj hs a b) : Adj hs b a := h.elim .inr .inl
theorem WebOk.adj {n : Nat} {hs : List (Nat × Nat)} (W : WebOk n hs) {a b : Nat} (h : Adj hs a b) : a < n ∧ b < n := by
  rcases h with h | h <;> have := W.rng _ h <;> simp at this <;> omega

/-! ### breadth first, by a line -/
def Par (hs : List (Nat × Nat)) (par : Nat → Bool) : Prop := ∀ h ∈ hs, par h.1 ≠ par h.2
theorem Par.adj {hs : List (Nat × Nat)} {par : Nat → Bool} (p : Par hs par) {a b : Nat} (h : Adj hs a b) : par a ≠ par b := by
  rcases h with h | h
  · exact p _ h
  · exact fun e => p _ h e.symm
def parI (par : Nat → Bool) (first f : Nat) : Int := if par f = par first then 0 else 1
structure Bfs (n first : Nat) (par : Nat → Bool) (fs : List (Option Int)) (ls : List Nat) : Prop where
  len : fs.length = n
  nd : ls.Nodup
  mem : ∀ f, f ∈ ls ↔ ∃ k, fs[f]? = some (some k)
  fst : fs[first]? = some (some 0)
  pty : ∀ f k, fs[f]? = some (some k) → k % 2 = parI par first f
section
variable {n first : Nat} {hs : List (Nat × Nat)} {par : Nat → Bool} {fs : List (Option Int)} {ls : List Nat}
theorem Bfs.lt (b : Bfs n first par fs ls) {f : Nat} (h : f ∈ ls) : f < n := by
  obtain ⟨k, e⟩ := (b.mem f).mp h
  rw [← b.len]
  exact (List.getElem?_eq_some_iff.mp e).1
theorem Bfs.le (b : Bfs n first par fs ls) : ls.length ≤ n := nodup_le b.nd fun _ h => b.lt h
theorem bfs_start (h : first < n) : Bfs n first par ((List.replicate n none).set first (some 0)) [first] := by
  refine ⟨by simp, by simp, fun f => ?_, by simp [h], fun f k e => ?_⟩
  · by_cases hf : first = f
    · subst hf; simp [h]
    · rw [List.getElem?_set_ne hf]
      constructor
      · intro e; exact absurd (by simpa using e) (Ne.symm hf)
      · rintro ⟨k, e⟩
        rw [List.getElem?_replicate] at e
        split at e <;> simp at e
  · by_cases hf : first = f
    · subst hf
      rw [List.getElem?_set_self (by simpa using h)] at e
      cases e
      simp [parI]
    · rw [List.getElem?_set_ne hf, List.getElem?_replicate] at e
      split at e <;> simp at e
theorem parI_flip {a b : Nat} {k : Int} (h : par a ≠ par b) (e : k % 2 = parI par first a) : (k + 1) % 2 = parI par first b := by
  unfold parI at *
  cases h1 : par a <;> cases h2 : par b <;> cases h3 : par first <;> simp_all <;> omega
theorem Bfs.step (b : Bfs n first par fs ls) (p : Par hs par) {u g : Nat} {k : Int} (hu : fs[u]? = some (some k)) (ha : Adj hs u g) (hg : fs[g]? = some none) : Bfs n first par (fs.set g (some (k + 1))) (ls ++ [g]) := by
  have hgn : g < fs.length := (List.getElem?_eq_some_iff.mp hg).1
  have hgl : g ∉ ls := fun h => by
    obtain ⟨k', e⟩ := (b.mem g).mp h
    rw [hg] at e; cases e
  refine ⟨by rw [List.length_set]; exact b.len, nodup_snoc b.nd hgl, fun f => ?_, ?_, fun f k' e => ?_⟩
  · by_cases hf : g = f
    · subst hf
      rw [List.getElem?_set_self hgn]
      simp
    · rw [List.getElem?_set_ne hf, ← b.mem f]
      simp
      exact fun e => absurd e.symm hf
  · rw [List.getElem?_set_ne (fun e => by rw [e, b.fst] at hg; cases hg)]
    exact b.fst
  · by_cases hf : g = f
    · subst hf
      rw [List.getElem?_set_self hgn] at e
      cases e
      exact parI_flip (p.adj ha) (b.pty u k hu)
    · rw [List.getElem?_set_ne hf] at e
      exact b.pty f k' e
theorem WebOk.conn (W : WebOk n hs) (S : Nat → Prop) (hS : ∀ a b, Adj hs a b → S a → S b) {first : Nat} (hf : first < n) (h0 : S first) : ∀ f, f < n → S f := by
  have iff : ∀ h ∈ hs, (S h.1 ↔ S h.2) := fun h hm => ⟨hS _ _ (.inl hm), hS _ _ (.inr hm)⟩
  have key := W.con (fun f => (S f ↔ S 0)) (fun h hm => by rw [iff h hm]) Iff.rfl
  have s0 : S 0 := (key first hf).mp h0
  exact fun f h => (key f h).mpr s0
/-- all fields are reached -/
theorem Bfs.all (b : Bfs n first par fs ls) (W : WebOk n hs) (hc : ∀ f ∈ ls, ∀ g, Adj hs f g → g ∈ ls) : ∃ ks : List Int, ks.length = n ∧ fs = ks.map some ∧ (∀ f, f < n → ks.getD f 0 % 2 = parI par first f) := by
  have hfirst : first ∈ ls := (b.mem first).mpr ⟨0, b.fst⟩
  have all := W.conn (fun f => f ∈ ls) (fun a c h1 h2 => hc a h2 c h1) (b.lt hfirst) hfirst
  have some_of : ∀ f, f < n → ∃ k, fs[f]? = some (some k) := fun f h => (b.mem f).mp (all f h)
  refine ⟨fs.map fun o => o.getD 0, by rw [List.length_map]; exact b.len, ?_, fun f h => ?_⟩
  · apply List.ext_getElem?
    intro f
    by_cases h : f < n
    · obtain ⟨k, e⟩ := some_of f h
      simp [e]
    · rw [List.getElem?_eq_none (by rw [b.len]; omega), List.getElem?_eq_none (by simp [b.len]; omega)]
  · obtain ⟨k, e⟩ := some_of f h
    rw [List.getD_eq_getElem?_getD, List.getElem?_map, e]
    exact b.pty f k e
end
end TW

namespace TW
theorem parI_sum {par : Nat → Bool} {first a b : Nat} (h : par a ≠ par b) : parI par first a + parI par first b = 1 := by
  unfold parI
  cases h1 : par a <;> cases h2 : par b <;> cases h3 : par first <;> simp_all
end TW

namespace TW
/-! ### layings -/
def lows (n : Nat) (hs : List (Nat × Nat)) (x : List Int) : List Nat := (List.range n).filter fun f => (nbr hs f).all fun g => decide (x.getD f 0 < x.getD g 0)
def highs (n : Nat) (hs : List (Nat × Nat)) (x : List Int) : List Nat := (List.range n).filter fun f => (nbr hs f).all fun g => decide (x.getD g 0 < x.getD f 0)
def chg (x : List Int) (f : Nat) (b : Int) : List Int := x.set f (x.getD f 0 + b)
theorem getD_at {x : List Int} {f : Nat} (h : f < x.length) : x[f]? = some (x.getD f 0) := by rw [List.getD_eq_getElem?_getD, List.getElem?_eq_getElem h]; rfl
theorem chg_eq {x : List Int} {f : Nat} {b : Int} (h : f < x.length) : x.take f ++ [x.getD f 0 + b] ++ x.drop (f + 1) = chg x f b := by
  unfold chg
  rw [List.set_eq_take_append_cons_drop, if_pos h, List.append_assoc]
  rfl
theorem adj_step {n : Nat} {hs : List (Nat × Nat)} {x : List Int} (L : Lay n hs x) {a b : Nat} (h : Adj hs a b) : (x.getD a 0 - x.getD b 0).natAbs = 1 := by
  rcases h with h | h
  · exact L.step _ h
  · have := L.step _ h
    simp only at this
    omega
end TW
/-! TWD: expressions read over data. G: the part of the abstract heap that nobody changes any more; H: the heap. -/
namespace TW
open PySem PySem.Spec PyProof.Rows L2

abbrev DEnv := List (Option PyData)

/-! ### heaps -/
/-- an object that may still be changed -/
def Ch : Option HO → Prop
  | none => False
  | some (.tup _) => False
  | some _ => True
structure Nxt (G H G' H' : Hp) : Prop where
  h : Same H H'
  g : Same G G'
  s : Same G' H'
  f : ∀ b, G b = none → Ch (H b) → G' b = none
section
variable {G H G' H' G2 H2 : Hp}
theorem Nxt.refl (s : Same G H) : Nxt G H G H := ⟨Same.refl _, Same.refl _, s, fun _ h _ => h⟩
theorem Nxt.trans (a : Nxt G H G' H') (b : Nxt G' H' G2 H2) : Nxt G H G2 H2 := by
  refine ⟨a.h.trans b.h, a.g.trans b.g, b.s, fun c h1 h2 => b.f c (a.f c h1 h2) ?_⟩
  cases e : H c with
  | none => rw [e] at h2; exact h2.elim
  | some o => rw [a.h c o e, ← e]; exact h2
theorem same_upd {p : Addr} {o : HO} (h : H p = none) : Same H (upd H p o) := fun b x e => by
  rw [upd_ne (ne_of_none e h)]
  exact e
theorem same_upd2 {p : Addr} {o : HO} (s : Same G H) (h : G p = none) : Same G (upd H p o) := fun b x e => by
  rw [upd_ne (ne_of_none e h)]
  exact s b x e
theorem same_both {p : Addr} {o : HO} (s : Same G H) : Same (upd G p o) (upd H p o) := fun b x e => by
  by_cases hb : b = p
  · subst hb; rw [upd_same] at e ⊢; exact e
  · rw [upd_ne hb] at e ⊢; exact s b x e
theorem Nxt.new {p : Addr} {o : HO} (s : Same G H) (h : H p = none) : Nxt G H (upd G p o) (upd H p o) := by
  refine ⟨same_upd h, same_upd (s.free h), same_both s, fun b h1 h2 => ?_⟩
  have hb : b ≠ p := fun e => by rw [e, h] at h2; exact h2
  rw [upd_ne hb]
  exact h1
/-- a new object that is still to be changed: it stays outside of G -/
theorem Nxt.new0 {p : Addr} {o : HO} (s : Same G H) (h : H p = none) : Nxt G H G (upd H p o) :=
  ⟨same_upd h, Same.refl _, s.trans (same_upd h), fun b h1 _ => h1⟩
/-- a tracked object is taken into G -/
theorem Nxt.take {p : Addr} {o : HO} (s : Same G H) (h : H p = some o) (hg : G p = none) (h0 : H2 p = none) (n : Nxt G2 H2 G H) : Nxt G2 H2 (upd G p o) H := by
  refine ⟨n.h, n.g.trans (same_upd hg), fun b x e => ?_, fun b h1 h2 => ?_⟩
  · by_cases hb : b = p
    · subst hb; rw [upd_same] at e; rw [h]; exact e
    · rw [upd_ne hb] at e; exact s b x e
  · have hb : b ≠ p := fun e => by rw [e, h0] at h2; exact h2
    rw [upd_ne hb]
    exact n.f b h1 h2
end

/-! ### data: every tuple is tracked as itself -/
mutual
inductive Dp (K : PySem.W.Frag) (H : Hp) : V → PyData → Prop
  | non : Dp K H .non .none
  | bl (b : Bool) : Dp K H (.bl b) (.bool b)
  | int (i : Int) : Dp K H (.int i) (.int i)
  | str (x : Str) : Dp K H (.str x) (.str x)
  | lst {a : Addr} {xs : List V} {ds : List PyData} : SqL K H a xs → DpAll K H xs ds → Dp K H (.ref a) (.list ds)
  | tup {a : Addr} {xs : List V} {ds : List PyData} : H a = some (.tup xs) → DpAll K H xs ds → Dp K H (.ref a) (.tuple ds)
inductive DpAll (K : PySem.W.Frag) (H : Hp) : List V → List PyData → Prop
  | nil : DpAll K H [] []
  | cons {v : V} {vs : List V} {d : PyData} {ds : List PyData} : Dp K H v d → DpAll K H vs ds → DpAll K H (v :: vs) (d :: ds)
end
section
variable {K : PySem.W.Frag} {H H' : Hp}
mutual
theorem dp_w : ∀ {v : V} {d : PyData}, Dp K H v d → L2.Dp K H v d
  | _, _, .non => .non
  | _, _, .bl b => .bl b
  | _, _, .int i => .int i
  | _, _, .str x => .str x
  | _, _, .lst h a => .lst h (dpAll_w a)
  | _, _, .tup h a => .tup (.inl (.inl h)) (dpAll_w a)
theorem dpAll_w : ∀ {vs : List V} {ds : List PyData}, DpAll K H vs ds → L2.DpAll K H vs ds
  | _, _, .nil => .nil
  | _, _, .cons h a => .cons (dp_w h) (dpAll_w a)
end
theorem same_t {a : Addr} {xs : List V} (e : Same H H') (h : SqT K H a xs) : SqT K H' a xs := by
  rcases h with (h | ⟨o, h⟩) | h
  · exact .inl (.inl (e _ _ h))
  · exact .inl (.inr ⟨o, e _ _ h⟩)
  · exact .inr h
mutual
theorem dp_mono (e : Same H H') : ∀ {v : V} {d : PyData}, Dp K H v d → Dp K H' v d
  | _, _, .non => .non
  | _, _, .bl b => .bl b
  | _, _, .int i => .int i
  | _, _, .str x => .str x
  | _, _, .lst h a => .lst (e.seq h) (dpAll_mono e a)
  | _, _, .tup h a => .tup (e _ _ h) (dpAll_mono e a)
theorem dpAll_mono (e : Same H H') : ∀ {vs : List V} {ds : List PyData}, DpAll K H vs ds → DpAll K H' vs ds
  | _, _, .nil => .nil
  | _, _, .cons h a => .cons (dp_mono e h) (dpAll_mono e a)
end
theorem dpAll_len : ∀ {vs : List V} {ds : List PyData}, DpAll K H vs ds → vs.length = ds.length
  | _, _, .nil => rfl
  | _, _, .cons _ a => by rw [List.length_cons, List.length_cons, dpAll_len a]
theorem dpAll_get : ∀ {vs : List V} {ds : List PyData} {i : Nat} {d : PyData}, DpAll K H vs ds → ds[i]? = some d → ∃ v, vs[i]? = some v ∧ Dp K H v d
  | _, _, _, _, .nil, e => by simp at e
  | _, _, 0, _, .cons h _, e => by simp at e; subst e; exact ⟨_, rfl, h⟩
  | _, _, i + 1, d, .cons _ a, e => by
    obtain ⟨v, h1, h2⟩ := dpAll_get (i := i) (d := d) a (by simpa using e)
    exact ⟨v, by simpa using h1, h2⟩
theorem dpAll_getV : ∀ {vs : List V} {ds : List PyData} {i : Nat} {v : V}, DpAll K H vs ds → vs[i]? = some v → ∃ d, ds[i]? = some d ∧ Dp K H v d
  | _, _, _, _, .nil, e => by simp at e
  | _, _, 0, _, .cons h _, e => by simp at e; subst e; exact ⟨_, rfl, h⟩
  | _, _, i + 1, v, .cons _ a, e => by
    obtain ⟨d, h1, h2⟩ := dpAll_getV (i := i) (v := v) a (by simpa using e)
    exact ⟨d, by simpa using h1, h2⟩
theorem dpAll_app : ∀ {vs ws : List V} {ds es : List PyData}, DpAll K H vs ds → DpAll K H ws es → DpAll K H (vs ++ ws) (ds ++ es)
  | _, _, _, _, .nil, b => b
  | _, _, _, _, .cons h a, b => .cons h (dpAll_app a b)
theorem dpAll_one {v : V} {d : PyData} (h : Dp K H v d) : DpAll K H [v] [d] := .cons h .nil
theorem dpAll_ints : ∀ (ns : List Int), DpAll K H (ns.map V.int) (ns.map PyData.int)
  | [] => .nil
  | n :: ns => .cons (.int n) (dpAll_ints ns)
theorem dpAll_ints_inv : ∀ {vs : List V} {ns : List Int}, DpAll K H vs (ns.map PyData.int) → vs = ns.map V.int
  | _, [], .nil => rfl
  | _, n :: ns, .cons h a => by
    cases h
    rw [dpAll_ints_inv (ns := ns) a]
    rfl
theorem dpAll_bools_inv : ∀ {vs : List V} {ns : List Bool}, DpAll K H vs (ns.map PyData.bool) → vs = ns.map V.bl
  | _, [], .nil => rfl
  | _, n :: ns, .cons h a => by
    cases h
    rw [dpAll_bools_inv (ns := ns) a]
    rfl
end

/-- the slots hold data that stands in G -/
structure EnvD (K : PySem.W.Frag) (G : Hp) (σ : L2.St) (ρ : DEnv) : Prop where
  len : σ.length = ρ.length
  get : ∀ (i : Nat) (d : PyData), ρ[i]? = some (some d) → ∃ v, σ[i]? = some (some v) ∧ Dp K G v d
section
variable {K : PySem.W.Frag} {G G' H : Hp} {σ : L2.St} {ρ : DEnv}
theorem EnvD.mono (e : Same G G') (h : EnvD K G σ ρ) : EnvD K G' σ ρ := ⟨h.len, fun i d q => let ⟨v, a, b⟩ := h.get i d q; ⟨v, a, dp_mono e b⟩⟩
theorem EnvD.set {i : Nat} {v : V} {d : PyData} (h : EnvD K G σ ρ) (p : Dp K G v d) : EnvD K G (σ.set i (some v)) (ρ.set i (some d)) := by
  refine ⟨by rw [List.length_set, List.length_set]; exact h.len, fun j d' q => ?_⟩
  by_cases hj : i = j
  · subst hj
    by_cases hi : i < ρ.length
    · rw [List.getElem?_set_self hi] at q
      have e : d = d' := Option.some.inj (Option.some.inj q)
      subst e
      exact ⟨v, List.getElem?_set_self (by rw [h.len]; exact hi), p⟩
    · rw [List.getElem?_eq_none (by rw [List.length_set]; omega)] at q
      cases q
  · rw [List.getElem?_set_ne hj] at q
    obtain ⟨w, a, b⟩ := h.get j d' q
    exact ⟨w, by rw [List.getElem?_set_ne hj]; exact a, b⟩
/-- a slot whose value is no longer told -/
theorem EnvD.drop {i : Nat} {x : Option V} (h : EnvD K G σ ρ) : EnvD K G (σ.set i x) (ρ.set i none) := by
  refine ⟨by rw [List.length_set, List.length_set]; exact h.len, fun j d' q => ?_⟩
  by_cases hj : i = j
  · subst hj
    by_cases hi : i < ρ.length
    · rw [List.getElem?_set_self hi] at q
      cases q
    · rw [List.getElem?_eq_none (by rw [List.length_set]; omega)] at q
      cases q
  · rw [List.getElem?_set_ne hj] at q
    obtain ⟨w, a, b⟩ := h.get j d' q
    exact ⟨w, by rw [List.getElem?_set_ne hj]; exact a, b⟩
/-- fewer slots told -/
theorem EnvD.weak {ρ' : DEnv} (h : EnvD K G σ ρ) (hl : ρ'.length = ρ.length) (w : ∀ (i : Nat) (d : PyData), ρ'[i]? = some (some d) → ρ[i]? = some (some d)) : EnvD K G σ ρ' :=
  ⟨h.len.trans hl.symm, fun i d q => h.get i d (w i d q)⟩
def wipeD (ρ : DEnv) : List Nat → DEnv
  | [] => ρ
  | v :: vs => (wipeD ρ vs).set v none
theorem EnvD.wipe (h : EnvD K G σ ρ) : ∀ vs : List Nat, EnvD K G (wipe σ vs) (wipeD ρ vs)
  | [] => h
  | v :: vs => by
    show EnvD K G ((L2.wipe σ vs).set v none) ((wipeD ρ vs).set v none)
    exact (h.wipe vs).drop
end

/-! ### the judgements -/
def tD (K : PySem.W.Frag) (ρ : DEnv) (P : PyData → Prop) : TE := fun σ H Q => ∃ G, Same G H ∧ EnvD K G σ ρ ∧ ∀ v d G' H', Nxt G H G' H' → P d → Dp K G' v d → Q v H'
def tDt (K : PySem.W.Frag) (ρ : DEnv) (b : Bool) : TT := fun σ H Q => ∃ G, Same G H ∧ EnvD K G σ ρ ∧ ∀ G' H', Nxt G H G' H' → Q b H'
def tDs (K : PySem.W.Frag) (ρ : DEnv) (P : List PyData → Prop) : TA := fun σ H Q => ∃ G, Same G H ∧ EnvD K G σ ρ ∧ ∀ vs ds G' H', Nxt G H G' H' → P ds → DpAll K G' vs ds → Q vs H'
def tDb (K : PySem.W.Frag) (ρ : DEnv) (P : PyData → Prop) : TS := fun D σ H => ∃ G, Same G H ∧ EnvD K G σ ρ ∧ ∀ v d G' H', Nxt G H G' H' → P d → Dp K G' v d → D.rt v H'
abbrev DeR (X : Cx) (e : Expr) (ρ : DEnv) (P : PyData → Prop) : Prop := PE X e (tD X.K ρ P)
abbrev De (X : Cx) (e : Expr) (ρ : DEnv) (d : PyData) : Prop := DeR X e ρ (fun x => x = d)
abbrev Dt (X : Cx) (e : Expr) (ρ : DEnv) (b : Bool) : Prop := PT X e (tDt X.K ρ b)
abbrev DasR (X : Cx) (es : List Expr) (ρ : DEnv) (P : List PyData → Prop) : Prop := PA X es (tDs X.K ρ P)
abbrev Das (X : Cx) (es : List Expr) (ρ : DEnv) (ds : List PyData) : Prop := DasR X es ρ (fun x => x = ds)
abbrev Db (X : Cx) (sts : List Stmt) (ρ : DEnv) (P : PyData → Prop) : Prop := PSs X sts (tDb X.K ρ P)

section
variable {X : Cx} {e : Expr} {t t' : TE} {c : TT} {c' : TT} {sts : List Stmt} {ts ts' : TS} {es : List Expr} {ta ta' : TA} {st : Stmt}
theorem pe_wk (h : PE X e t) (w : ∀ σ H Q, t' σ H Q → t σ H Q) : PE X e t' := ⟨fun pins s σ H Q I q => h.run pins s σ H Q I (w _ _ _ q)⟩
theorem pt_wk (h : PT X e c) (w : ∀ σ H Q, c' σ H Q → c σ H Q) : PT X e c' := ⟨fun pins s σ H Q I q => h.run pins s σ H Q I (w _ _ _ q)⟩
theorem pa_wk (h : PA X es ta) (w : ∀ σ H Q, ta' σ H Q → ta σ H Q) : PA X es ta' := ⟨fun pos pins s σ H Q I q => h.run pos pins s σ H Q I (w _ _ _ q)⟩
theorem pss_wk (h : PSs X sts ts) (w : ∀ D σ H, ts' D σ H → ts D σ H) : PSs X sts ts' := ⟨fun pins s σ H D I q => h.run pins s σ H D I (w _ _ _ q)⟩
theorem ps_wk (h : PS X st ts) (w : ∀ D σ H, ts' D σ H → ts D σ H) : PS X st ts' := ⟨fun pins s σ H D I q => h.run pins s σ H D I (w _ _ _ q)⟩
theorem pss_ex {α : Type} {A : α → Prop} {tf : α → TS} (h : ∀ a, A a → PSs X sts (tf a)) : PSs X sts (fun D σ H => ∃ a, A a ∧ tf a D σ H) :=
  ⟨fun pins s σ H D I ⟨a, pa, q⟩ => (h a pa).run pins s σ H D I q⟩
theorem pe_ex {α : Type} {A : α → Prop} {tf : α → TE} (h : ∀ a, A a → PE X e (tf a)) : PE X e (fun σ H Q => ∃ a, A a ∧ tf a σ H Q) :=
  ⟨fun pins s σ H Q I ⟨a, pa, q⟩ => (h a pa).run pins s σ H Q I q⟩
theorem pts_ex {α : Type} {A : α → Prop} {tf : α → TT} (h : ∀ a, A a → PTs X es (tf a)) : PTs X es (fun σ H Q => ∃ a, A a ∧ tf a σ H Q) :=
  ⟨fun pins s σ H Q I ⟨a, pa, q⟩ => (h a pa).run pins s σ H Q I q⟩
end

section
variable {X : Cx} {ρ : DEnv} {e a b c : Expr} {P Q R : PyData → Prop} {d : PyData} {pos p : Pos}
theorem de_imp (h : DeR X e ρ P) (w : ∀ d, P d → Q d) : DeR X e ρ Q := pe_wk h fun σ H K' ⟨G, s, en, q⟩ => ⟨G, s, en, fun v d G' H' n pd dp => q v d G' H' n (w d pd) dp⟩
theorem de_eq {d' : PyData} (h : De X e ρ d) (w : d = d') : De X e ρ d' := w ▸ h

/-! names, constants -/
theorem de_var (i : Nat) {x : Str} (h : ρ[i]? = some (some d)) (hN : X.N[i]? = some x := by rfl) (hv : Vis X.env.scope x := by first | exact Or.inl rfl | exact Or.inr (Or.inl rfl) | exact Or.inr (Or.inr rfl))
    (hd : (x == ("__debug__" : Str)) = false := by decide) (hcd : (x == ("__classdict__" : Str)) = false := by decide) : De X (.Name x pos) ρ d :=
  pe_wk (pe_var hN hv hd hcd) fun σ H Q ⟨G, s, en, q⟩ => let ⟨v, e1, e2⟩ := en.get i d h; ⟨v, e1, q v d G H (Nxt.refl s) rfl e2⟩
theorem de_c {v : V} (h : PE X e (tC v)) (hv : ∀ G, Dp X.K G v d) : De X e ρ d :=
  pe_wk h fun σ H Q ⟨G, s, _, q⟩ => q v d G H (Nxt.refl s) rfl (hv G)
theorem de_int {i j} : De X (.Constant (.int i) j pos) ρ (.int i) := de_c pe_int fun _ => .int i
theorem de_bl {b j} : De X (.Constant (.bool b) j pos) ρ (.bool b) := de_c pe_bl fun _ => .bl b
theorem de_non {j} : De X (.Constant .none j pos) ρ .none := de_c pe_non fun _ => .non
theorem de_glob {x : Str} {n : Int} {t : Tok} (hg : Gl X x) (hm : X.mg x = some (.int n t)) (hd : (x == ("__debug__" : Str)) = false := by decide) : De X (.Name x pos) ρ (.int n) := de_c (v := .int n) (pe_glob hg hm ⟨t, rfl⟩ hd) fun _ => .int n

/-! operators by values -/
/-- what a two-place rule does on data -/
def RD2 (K : PySem.W.Frag) (r : R2) (P Q R : PyData → Prop) : Prop := ∀ x y dx dy G H, P dx → Q dy → Same G H → Dp K G x dx → Dp K G y dy → ∀ k : VK, (∀ v d G' H', Nxt G H G' H' → R d → Dp K G' v d → k v H') → r x y H k
theorem t_op {r : R2} {K : PySem.W.Frag} (hr : RD2 K r P Q R) : ∀ σ H k, tD K ρ R σ H k → tOp r (tD K ρ P) (tD K ρ Q) σ H k := by
  rintro σ H k ⟨G, s, en, q⟩
  refine ⟨G, s, en, fun x dx G1 H1 n1 p1 d1 => ⟨G1, n1.s, en.mono n1.g, fun y dy G2 H2 n2 p2 d2 => ?_⟩⟩
  exact hr x y dx dy G2 H2 p1 p2 n2.s (dp_mono n2.g d1) d2 k fun v d G' H' n pd dp => q v d G' H' ((n1.trans n2).trans n) pd dp
theorem de_op {op : Operator} {r : R2} (ho : OpR X (binaryOp op) r) (hr : RD2 X.K r P Q R) (ha : DeR X a ρ P) (hb : DeR X b ρ Q) : DeR X (.BinOp a op b pos) ρ R := pe_wk (pe_op ho ha hb) (t_op hr)
theorem de_cmpR {op : CmpOp} {r : R2} (ho : OpR X (compareOp op) r) (hr : RD2 X.K r P Q R) (ha : DeR X a ρ P) (hb : DeR X b ρ Q) (hm : behindInMarks op b = false) : DeR X (.Compare a [op] [b] pos) ρ R := pe_wk (pe_cmpR ho ha hb hm) (t_op hr)
theorem rd_I {C : Int → Int → Prop} {g : Int → Int → Int} {i j : Int} {K : PySem.W.Frag} (hc : C i j) : RD2 K (rI C fun i j => .int (g i j)) (· = .int i) (· = .int j) (· = .int (g i j)) := by
  rintro x y _ _ G H rfl rfl s hx hy k q
  cases hx; cases hy
  exact ⟨i, j, rfl, rfl, hc, q _ _ G H (Nxt.refl s) rfl (.int _)⟩
theorem rd_I0 {g : Int → Int → Int} {i j : Int} {K : PySem.W.Frag} : RD2 K (rI0 fun i j => .int (g i j)) (· = .int i) (· = .int j) (· = .int (g i j)) := by
  rintro x y _ _ G H rfl rfl s hx hy k q
  cases hx; cases hy
  exact ⟨i, j, rfl, rfl, q _ _ G H (Nxt.refl s) rfl (.int _)⟩
theorem rd_B0 {g : Int → Int → Bool} {i j : Int} {K : PySem.W.Frag} : RD2 K (rI0 fun i j => .bl (g i j)) (· = .int i) (· = .int j) (· = .bool (g i j)) := by
  rintro x y _ _ G H rfl rfl s hx hy k q
  cases hx; cases hy
  exact ⟨i, j, rfl, rfl, q _ _ G H (Nxt.refl s) rfl (.bl _)⟩
theorem de_add {i j : Int} (ha : De X a ρ (.int i)) (hb : De X b ρ (.int j)) : De X (.BinOp a .Add b pos) ρ (.int (i + j)) := de_op op_add rd_I0 ha hb
theorem de_sub {i j : Int} (ha : De X a ρ (.int i)) (hb : De X b ρ (.int j)) : De X (.BinOp a .Sub b pos) ρ (.int (i - j)) := de_op op_sub rd_I0 ha hb
theorem de_mul {i j : Int} (ha : De X a ρ (.int i)) (hb : De X b ρ (.int j)) (hc : CMul i j) : De X (.BinOp a .Mult b pos) ρ (.int (i * j)) := de_op op_mul (rd_I hc) ha hb
theorem de_mod {i j : Int} (ha : De X a ρ (.int i)) (hb : De X b ρ (.int j)) (hc : 0 < j) : De X (.BinOp a .Mod b pos) ρ (.int (i % j)) := de_op op_mod (rd_I hc) ha hb
theorem de_pow {i j : Int} (ha : De X a ρ (.int i)) (hb : De X b ρ (.int j)) (hc : CPow i j) : De X (.BinOp a .Pow b pos) ρ (.int (i ^ j.toNat)) := de_op op_pow (rd_I hc) ha hb
theorem de_neg {i : Int} (ha : De X a ρ (.int i)) : De X (.UnaryOp .USub a pos) ρ (.int (-i)) := by
  refine pe_wk (pe_un un_neg ha) ?_
  rintro σ H k ⟨G, s, en, q⟩
  refine ⟨G, s, en, fun x dx G1 H1 n1 p1 d1 => ?_⟩
  subst p1
  cases d1
  exact ⟨i, rfl, q _ _ G1 H1 n1 rfl (.int _)⟩
theorem de_lt {i j : Int} (ha : De X a ρ (.int i)) (hb : De X b ρ (.int j)) : De X (.Compare a [.Lt] [b] pos) ρ (.bool (decide (i < j))) := de_cmpR op_lt rd_B0 ha hb (nomark _)
theorem de_le {i j : Int} (ha : De X a ρ (.int i)) (hb : De X b ρ (.int j)) : De X (.Compare a [.LtE] [b] pos) ρ (.bool (decide (i ≤ j))) := de_cmpR op_le rd_B0 ha hb (nomark _)
theorem de_gt {i j : Int} (ha : De X a ρ (.int i)) (hb : De X b ρ (.int j)) : De X (.Compare a [.Gt] [b] pos) ρ (.bool (decide (j < i))) := de_cmpR op_gt rd_B0 ha hb (nomark _)
theorem de_ge {i j : Int} (ha : De X a ρ (.int i)) (hb : De X b ρ (.int j)) : De X (.Compare a [.GtE] [b] pos) ρ (.bool (decide (j ≤ i))) := de_cmpR op_ge rd_B0 ha hb (nomark _)
/-- == and != of data -/
theorem rd_eqD {dx dy : PyData} {K : PySem.W.Frag} (h1 : SeqAt.shaped dx = true) (h2 : SeqAt.shaped dy = true) : RD2 K (rEqD K) (· = dx) (· = dy) (· = .bool (PyData.eqv dx dy)) := by
  rintro x y _ _ G H rfl rfl s hx hy k q
  exact ⟨_, _, dp_w (dp_mono s hx), dp_w (dp_mono s hy), h1, h2, q _ _ G H (Nxt.refl s) rfl (.bl _)⟩
theorem rd_neD {dx dy : PyData} {K : PySem.W.Frag} (h1 : SeqAt.shaped dx = true) (h2 : SeqAt.shaped dy = true) : RD2 K (rNeD K) (· = dx) (· = dy) (· = .bool (!PyData.eqv dx dy)) := by
  rintro x y _ _ G H rfl rfl s hx hy k q
  exact ⟨_, _, dp_w (dp_mono s hx), dp_w (dp_mono s hy), h1, h2, q _ _ G H (Nxt.refl s) rfl (.bl _)⟩
theorem de_eqD {dx dy : PyData} (hu : X.A.units + 64 < cLine) (ha : De X a ρ dx) (hb : De X b ρ dy) (h1 : SeqAt.shaped dx = true) (h2 : SeqAt.shaped dy = true) : De X (.Compare a [.Eq] [b] pos) ρ (.bool (PyData.eqv dx dy)) := de_cmpR (op_eqD hu) (rd_eqD h1 h2) ha hb (nomark _)
theorem de_neD {dx dy : PyData} (hu : X.A.units + 64 < cLine) (ha : De X a ρ dx) (hb : De X b ρ dy) (h1 : SeqAt.shaped dx = true) (h2 : SeqAt.shaped dy = true) : De X (.Compare a [.NotEq] [b] pos) ρ (.bool (!PyData.eqv dx dy)) := de_cmpR (op_neD hu) (rd_neD h1 h2) ha hb (nomark _)
/-- == and != of ints -/
theorem rd_eqI {i j : Int} {K : PySem.W.Frag} : RD2 K rEq (· = .int i) (· = .int j) (· = .bool (decide (i = j))) := by
  rintro x y _ _ G H rfl rfl s hx hy k q
  cases hx; cases hy
  refine ⟨rfl, q _ _ G H (Nxt.refl s) rfl ?_⟩
  have e : decide (V.int i = V.int j) = decide (i = j) := by
    by_cases h : i = j
    · subst h; simp
    · simp [h]
  rw [e]
  exact .bl _
theorem rd_neI {i j : Int} {K : PySem.W.Frag} : RD2 K rNe (· = .int i) (· = .int j) (· = .bool (!decide (i = j))) := by
  rintro x y _ _ G H rfl rfl s hx hy k q
  cases hx; cases hy
  refine ⟨rfl, q _ _ G H (Nxt.refl s) rfl ?_⟩
  have e : decide (V.int i = V.int j) = decide (i = j) := by
    by_cases h : i = j
    · subst h; simp
    · simp [h]
  rw [e]
  exact .bl _
theorem de_eqI {i j : Int} (ha : De X a ρ (.int i)) (hb : De X b ρ (.int j)) : De X (.Compare a [.Eq] [b] pos) ρ (.bool (decide (i = j))) := de_cmpR op_eq rd_eqI ha hb (nomark _)
theorem de_neI {i j : Int} (ha : De X a ρ (.int i)) (hb : De X b ρ (.int j)) : De X (.Compare a [.NotEq] [b] pos) ρ (.bool (!decide (i = j))) := de_cmpR op_ne rd_neI ha hb (nomark _)
/-- a <= b <= c of ints -/
theorem de_chain {i j k : Int} (ha : De X a ρ (.int i)) (hb : De X b ρ (.int j)) (hc : De X c ρ (.int k)) (hm : lastMarks [.LtE, .LtE] [b, c] = false := by with_unfolding_all rfl) : De X (.Compare a [.LtE, .LtE] [b, c] pos) ρ (.bool (decide (i ≤ j) && decide (j ≤ k))) := by
  refine pe_wk (pe_chain op_le op_le ha hb hc hm) ?_
  rintro σ H K' ⟨G, s, en, q⟩
  refine ⟨G, s, en, fun x dx G1 H1 n1 p1 d1 => ⟨G1, n1.s, en.mono n1.g, fun y dy G2 H2 n2 p2 d2 => ?_⟩⟩
  subst p1 p2
  cases d1; cases d2
  refine ⟨i, j, rfl, rfl, decide (i ≤ j), rfl, ?_⟩
  cases hf : decide (i ≤ j) with
  | false =>
    rw [if_neg Bool.false_ne_true]
    refine q _ _ G2 H2 (n1.trans n2) (show PyData.bool false = _ from ?_) (.bl _)
    rw [hf]
    all_goals rfl
  | true =>
    rw [if_pos rfl]
    refine ⟨G2, n2.s, en.mono (n1.g.trans n2.g), fun z dz G3 H3 n3 p3 d3 => ?_⟩
    subst p3
    cases d3
    refine ⟨j, k, rfl, rfl, q _ _ G3 H3 ((n1.trans n2).trans n3) (show PyData.bool (decide (j ≤ k)) = _ from ?_) (.bl _)⟩
    rw [hf, Bool.true_and]
/-- is None, is not None -/
theorem de_isN {j pos'} (ha : De X a ρ d) : De X (.Compare a [.Is] [.Constant .none j pos'] pos) ρ (.bool (match d with | .none => true | _ => false)) := by
  refine pe_wk (pe_cmp (pc_isN ha)) ?_
  rintro σ H K' ⟨G, s, en, q⟩
  refine ⟨G, s, en, fun x dx G1 H1 n1 p1 d1 => ?_⟩
  subst p1
  cases d1 <;> exact q _ _ G1 H1 n1 rfl (.bl _)
theorem de_notN {j pos'} (ha : De X a ρ d) : De X (.Compare a [.IsNot] [.Constant .none j pos'] pos) ρ (.bool (match d with | .none => false | _ => true)) := by
  refine pe_wk (pe_cmp (pc_notN ha)) ?_
  rintro σ H K' ⟨G, s, en, q⟩
  refine ⟨G, s, en, fun x dx G1 H1 n1 p1 d1 => ?_⟩
  subst p1
  cases d1 <;> exact q _ _ G1 H1 n1 rfl (.bl _)
/-- is not True -/
theorem rd_notB {x y : Bool} {K : PySem.W.Frag} : RD2 K rNotB (· = .bool x) (· = .bool y) (· = .bool (!decide (x = y))) := by
  rintro _ _ _ _ G H rfl rfl s hx hy k q
  cases hx; cases hy
  exact ⟨x, y, rfl, rfl, q _ _ G H (Nxt.refl s) rfl (.bl _)⟩
theorem de_isnot {x y : Bool} (ha : De X a ρ (.bool x)) (hb : De X b ρ (.bool y)) : De X (.Compare a [.IsNot] [b] pos) ρ (.bool (!decide (x = y))) := de_cmpR op_notBl rd_notB ha hb (nomark _)
/-- bools compared -/
theorem rd_eqB {i j : Bool} {K : PySem.W.Frag} : RD2 K rEq (· = .bool i) (· = .bool j) (· = .bool (decide (i = j))) := by
  rintro x y _ _ G H rfl rfl s hx hy k q
  cases hx; cases hy
  refine ⟨rfl, q _ _ G H (Nxt.refl s) rfl ?_⟩
  have e : decide (V.bl i = V.bl j) = decide (i = j) := by cases i <;> cases j <;> rfl
  rw [e]
  exact .bl _
theorem rd_neB {i j : Bool} {K : PySem.W.Frag} : RD2 K rNe (· = .bool i) (· = .bool j) (· = .bool (!decide (i = j))) := by
  rintro x y _ _ G H rfl rfl s hx hy k q
  cases hx; cases hy
  refine ⟨rfl, q _ _ G H (Nxt.refl s) rfl ?_⟩
  have e : decide (V.bl i = V.bl j) = decide (i = j) := by cases i <;> cases j <;> rfl
  rw [e]
  exact .bl _
theorem de_eqB {i j : Bool} (ha : De X a ρ (.bool i)) (hb : De X b ρ (.bool j)) : De X (.Compare a [.Eq] [b] pos) ρ (.bool (decide (i = j))) := de_cmpR op_eq rd_eqB ha hb (nomark _)
theorem de_neB {i j : Bool} (ha : De X a ρ (.bool i)) (hb : De X b ρ (.bool j)) : De X (.Compare a [.NotEq] [b] pos) ρ (.bool (!decide (i = j))) := de_cmpR op_ne rd_neB ha hb (nomark _)
/-- in, not in a list -/
theorem rd_inD {dx : PyData} {ds : List PyData} {K : PySem.W.Frag} (h1 : SeqAt.shaped dx = true) (h2 : SeqAt.shaped (.list ds) = true) : RD2 K (rInD K) (· = dx) (· = .list ds) (· = .bool (ds.any fun z => PyData.eqv z dx)) := by
  rintro x y _ _ G H rfl rfl s hx hy k q
  exact ⟨_, _, dp_w (dp_mono s hx), dp_w (dp_mono s hy), h1, h2, q _ _ G H (Nxt.refl s) rfl (.bl _)⟩
theorem rd_notInD {dx : PyData} {ds : List PyData} {K : PySem.W.Frag} (h1 : SeqAt.shaped dx = true) (h2 : SeqAt.shaped (.list ds) = true) : RD2 K (rNotInD K) (· = dx) (· = .list ds) (· = .bool (!ds.any fun z => PyData.eqv z dx)) := by
  rintro x y _ _ G H rfl rfl s hx hy k q
  exact ⟨_, _, dp_w (dp_mono s hx), dp_w (dp_mono s hy), h1, h2, q _ _ G H (Nxt.refl s) rfl (.bl _)⟩
theorem de_in {dx : PyData} {ds : List PyData} (hu : X.A.units + 65 < cLine) (ha : De X a ρ dx) (hb : De X b ρ (.list ds)) (h1 : SeqAt.shaped dx = true) (h2 : SeqAt.shaped (.list ds) = true) (hm : behindInMarks .In b = false := by rfl) :
    De X (.Compare a [.In] [b] pos) ρ (.bool (ds.any fun z => PyData.eqv z dx)) := de_cmpR (op_inD hu) (rd_inD h1 h2) ha hb hm
theorem de_notIn {dx : PyData} {ds : List PyData} (hu : X.A.units + 65 < cLine) (ha : De X a ρ dx) (hb : De X b ρ (.list ds)) (h1 : SeqAt.shaped dx = true) (h2 : SeqAt.shaped (.list ds) = true) (hm : behindInMarks .NotIn b = false := by rfl) :
    De X (.Compare a [.NotIn] [b] pos) ρ (.bool (!ds.any fun z => PyData.eqv z dx)) := de_cmpR (op_notInD hu) (rd_notInD h1 h2) ha hb hm
end

/-! ### subscripts, slices, tuples, lists -/
section
variable {X : Cx} {ρ : DEnv} {e a b c : Expr} {es : List Expr} {P Q R : PyData → Prop} {d : PyData} {pos p p2 : Pos}
theorem dp_tup_s {K : PySem.W.Frag} {H : Hp} {v : V} {ds : List PyData} (h : Dp K H v (.tuple ds)) : ∃ a xs, v = .ref a ∧ H a = some (.tup xs) ∧ DpAll K H xs ds := by
  cases h with
  | tup h a => exact ⟨_, _, rfl, h, a⟩
theorem dp_tup_inv {K : PySem.W.Frag} {H : Hp} {v : V} {ds : List PyData} (h : Dp K H v (.tuple ds)) : ∃ a xs, v = .ref a ∧ SqT K H a xs ∧ DpAll K H xs ds := by
  cases h with
  | tup h a => exact ⟨_, _, rfl, .inl (.inl h), a⟩
theorem dp_lst_inv {K : PySem.W.Frag} {H : Hp} {v : V} {ds : List PyData} (h : Dp K H v (.list ds)) : ∃ a xs, v = .ref a ∧ SqL K H a xs ∧ DpAll K H xs ds := by
  cases h with
  | lst h a => exact ⟨_, _, rfl, h, a⟩
/-- the place of an item, of any sign -/
theorem atI_dp {K : PySem.W.Frag} {H : Hp} {vs : List V} {ds : List PyData} {i : Int} (h : DpAll K H vs ds) (e : atI ds i = some d) : ∃ v, atI vs i = some v ∧ Dp K H v d := by
  unfold atI at e ⊢
  rw [dpAll_len h]
  cases q : ixN ds.length i with
  | none => rw [q] at e; cases e
  | some j =>
    rw [q] at e
    exact dpAll_get h e
theorem rd_ixT {i : Int} {ds : List PyData} {K : PySem.W.Frag} (h : atI ds i = some d) : RD2 K (rIxT K) (· = .tuple ds) (· = .int i) (· = d) := by
  rintro x y _ _ G H rfl rfl s hx hy k q
  cases hy
  obtain ⟨a, xs, rfl, h1, h2⟩ := dp_tup_inv hx
  obtain ⟨v, e1, e2⟩ := atI_dp h2 h
  exact ⟨a, xs, i, v, rfl, rfl, same_t s h1, e1, q v d G H (Nxt.refl s) rfl e2⟩
theorem rd_ixL {i : Int} {ds : List PyData} {K : PySem.W.Frag} (h : atI ds i = some d) : RD2 K (rIxL K) (· = .list ds) (· = .int i) (· = d) := by
  rintro x y _ _ G H rfl rfl s hx hy k q
  cases hy
  obtain ⟨a, xs, rfl, h1, h2⟩ := dp_lst_inv hx
  obtain ⟨v, e1, e2⟩ := atI_dp h2 h
  exact ⟨a, xs, i, v, rfl, rfl, s.seq h1, e1, q v d G H (Nxt.refl s) rfl e2⟩
theorem de_ixT {i : Int} {ds : List PyData} (ha : De X a ρ (.tuple ds)) (hb : De X b ρ (.int i)) (h : atI ds i = some d) (hs : PlainIx b := by exact fun _ _ => rfl) : De X (.Subscript a b pos) ρ d := pe_wk (pe_ix ix_tup ha hb hs) (t_op (rd_ixT h))
theorem de_ixL {i : Int} {ds : List PyData} (ha : De X a ρ (.list ds)) (hb : De X b ρ (.int i)) (h : atI ds i = some d) (hs : PlainIx b := by exact fun _ _ => rfl) : De X (.Subscript a b pos) ρ d := pe_wk (pe_ix ix_list ha hb hs) (t_op (rd_ixL h))

/-- arguments -/
theorem das_nil : Das X [] ρ [] := pa_wk pa_nil fun σ H Q ⟨G, s, _, q⟩ => q [] [] G H (Nxt.refl s) rfl .nil
theorem das_consR {P : PyData → Prop} {R : List PyData → Prop} (ha : DeR X e ρ P) (hr : DasR X es ρ R) (hs : starEach (e :: es) X.env = (false, eval e X.env) :: starEach es X.env := by rfl) :
    DasR X (e :: es) ρ (fun x => ∃ d ds, P d ∧ R ds ∧ x = d :: ds) := by
  refine pa_wk (pa_cons ha hr hs) ?_
  rintro σ H Q ⟨G, s, en, q⟩
  refine ⟨G, s, en, fun x dx G1 H1 n1 p1 d1 => ⟨G1, n1.s, en.mono n1.g, fun xs dxs G2 H2 n2 p2 d2 => ?_⟩⟩
  exact q (x :: xs) (dx :: dxs) G2 H2 (n1.trans n2) ⟨dx, dxs, p1, p2, rfl⟩ (.cons (dp_mono n2.g d1) d2)
theorem das_cons {ds : List PyData} (ha : De X e ρ d) (hr : Das X es ρ ds) (hs : starEach (e :: es) X.env = (false, eval e X.env) :: starEach es X.env := by rfl) : Das X (e :: es) ρ (d :: ds) :=
  pa_wk (das_consR ha hr hs) fun σ H Q ⟨G, s, en, q⟩ => ⟨G, s, en, fun vs _ G' H' n ⟨d', ds', e1, e2, e3⟩ dp => q vs _ G' H' n (by rw [e3, e1, e2]) dp⟩
theorem das_oneR {P : PyData → Prop} (ha : DeR X e ρ P) (hs : starEach [e] X.env = (false, eval e X.env) :: starEach [] X.env := by rfl) : DasR X [e] ρ (fun x => ∃ d, P d ∧ x = [d]) :=
  pa_wk (das_consR ha das_nil hs) fun σ H Q ⟨G, s, en, q⟩ => ⟨G, s, en, fun vs _ G' H' n ⟨d', ds', e1, e2, e3⟩ dp => q vs _ G' H' n ⟨d', e1, by rw [e3, e2]⟩ dp⟩
theorem de_tup {ds : List PyData} {x1} (h : Das X es ρ ds) (hz : ds.length ≤ sizeLine := by decide) : De X (.Tuple es x1 pos) ρ (.tuple ds) := by
  refine pe_wk (pe_tup h) ?_
  rintro σ H Q ⟨G, s, en, q⟩
  refine ⟨G, s, en, fun vs ds' G1 H1 n1 p1 d1 => ?_⟩
  subst p1
  refine ⟨by rw [dpAll_len d1]; exact hz, fun p hp => ?_⟩
  have n2 := Nxt.new (o := .tup vs) n1.s hp
  exact q _ _ _ _ (n1.trans n2) rfl (.tup upd_same (dpAll_mono n2.g d1))
theorem de_lst {ds : List PyData} (h : Das X es ρ ds) (hz : ds.length ≤ sizeLine := by decide) : De X (.List es pos) ρ (.list ds) := by
  refine pe_wk (pe_lst h) ?_
  rintro σ H Q ⟨G, s, en, q⟩
  refine ⟨G, s, en, fun vs ds' G1 H1 n1 p1 d1 => ?_⟩
  subst p1
  refine ⟨by rw [dpAll_len d1]; exact hz, fun p hp => ?_⟩
  have n2 := Nxt.new (o := .lst vs) n1.s hp
  exact q _ _ _ _ (n1.trans n2) rfl (.lst (.inl (.inl upd_same)) (dpAll_mono n2.g d1))

/-- slices of tuples -/
def tDo (K : PySem.W.Frag) (ρ : DEnv) (o : Option Int) : TO := fun σ H Q => ∃ G, Same G H ∧ EnvD K G σ ρ ∧ ∀ G' H', Nxt G H G' H' → Q o H'
abbrev Do (X : Cx) (e : Option Expr) (ρ : DEnv) (o : Option Int) : Prop := PO X e (tDo X.K ρ o)
theorem po_wk {e : Option Expr} {t t' : TO} (h : PO X e t) (w : ∀ σ H Q, t' σ H Q → t σ H Q) : PO X e t' := ⟨fun pins s σ H Q I q => h.run pins s σ H Q I (w _ _ _ q)⟩
theorem do_none : Do X none ρ none := po_wk po_none fun σ H Q ⟨G, s, _, q⟩ => q G H (Nxt.refl s)
theorem do_some {i : Int} (h : De X e ρ (.int i)) : Do X (some e) ρ (some i) := by
  refine po_wk (po_some h) ?_
  rintro σ H Q ⟨G, s, en, q⟩
  refine ⟨G, s, en, fun x dx G1 H1 n1 p1 d1 => ?_⟩
  subst p1
  cases d1
  exact ⟨i, rfl, q G1 H1 n1⟩
def cutP (ds : List PyData) (lo hi : Option Int) : List PyData := (ds.drop (HT.sIx ds.length 0 lo)).take (HT.sIx ds.length ds.length hi - HT.sIx ds.length 0 lo)
theorem dpAll_take {K : PySem.W.Frag} {H : Hp} : ∀ {vs : List V} {ds : List PyData} (n : Nat), DpAll K H vs ds → DpAll K H (vs.take n) (ds.take n)
  | _, _, 0, _ => .nil
  | _, _, _ + 1, .nil => .nil
  | _, _, n + 1, .cons h a => .cons h (dpAll_take n a)
theorem dpAll_drop {K : PySem.W.Frag} {H : Hp} : ∀ {vs : List V} {ds : List PyData} (n : Nat), DpAll K H vs ds → DpAll K H (vs.drop n) (ds.drop n)
  | _, _, 0, a => a
  | _, _, _ + 1, .nil => .nil
  | _, _, n + 1, .cons _ a => dpAll_drop n a
theorem cut_dp {K : PySem.W.Frag} {H : Hp} {vs : List V} {ds : List PyData} {lo hi : Option Int} (h : DpAll K H vs ds) : DpAll K H (cutV vs lo hi) (cutP ds lo hi) := by
  unfold cutV cutP
  rw [dpAll_len h]
  exact dpAll_take _ (dpAll_drop _ h)
theorem de_sliceT {ds : List PyData} {lo hi : Option Expr} {l h : Option Int} (ha : De X a ρ (.tuple ds)) (hl : Do X lo ρ l) (hh : Do X hi ρ h) : De X (.Subscript a (.Slice lo hi none p2) pos) ρ (.tuple (cutP ds l h)) := by
  refine pe_wk (pe_slice sl_tupA ha hl hh) ?_
  rintro σ H Q ⟨G, s, en, q⟩
  refine ⟨G, s, en, fun x dx G1 H1 n1 p1 d1 => ⟨G1, n1.s, en.mono n1.g, fun G2 H2 n2 => ⟨G2, n2.s, en.mono (n1.g.trans n2.g), fun G3 H3 n3 => ?_⟩⟩⟩
  subst p1
  have n := (n1.trans n2).trans n3
  obtain ⟨t, xs, rfl, h1, h2⟩ := dp_tup_s (dp_mono (n2.trans n3).g d1)
  refine ⟨t, xs, rfl, .inl (.inl (n.s _ _ h1)), fun hc => ?_, fun _ p hp => ?_⟩
  · have e : cutP ds l h = ds := by
      unfold cutP
      rw [← dpAll_len h2, hc.1, hc.2]
      rw [dpAll_len h2]
      show (ds.drop 0).take (ds.length - 0) = ds
      rw [List.drop_zero, Nat.sub_zero, List.take_length]
    exact q _ _ G3 H3 n (by rw [e]) (.tup h1 h2)
  · have n4 := Nxt.new (o := .tup (cutV xs l h)) n.s hp
    exact q _ _ _ _ (n.trans n4) rfl (.tup upd_same (cut_dp (dpAll_mono n4.g h2)))
/-- tuples joined -/
theorem de_cat {ds es : List PyData} (ha : De X a ρ (.tuple ds)) (hb : De X b ρ (.tuple es)) (hz : ds.length + es.length ≤ sizeLine) : De X (.BinOp a .Add b pos) ρ (.tuple (ds ++ es)) := by
  refine de_op op_catA ?_ ha hb
  rintro x y _ _ G H rfl rfl s hx hy k q
  obtain ⟨t, xs, rfl, h1, h2⟩ := dp_tup_s hx
  obtain ⟨u, ys, rfl, h3, h4⟩ := dp_tup_s hy
  refine ⟨t, u, xs, ys, rfl, rfl, .inl (.inl (s _ _ h1)), .inl (.inl (s _ _ h3)), by rw [dpAll_len h2, dpAll_len h4]; exact hz, fun e => ?_, fun _ e => ?_, fun _ _ p hp => ?_⟩
  · subst e
    cases h2
    exact q _ _ G H (Nxt.refl s) rfl (.tup h3 h4)
  · subst e
    cases h4
    exact q _ _ G H (Nxt.refl s) (by rw [List.append_nil]) (.tup h1 h2)
  · have n := Nxt.new (o := .tup (xs ++ ys)) s hp
    exact q _ _ _ _ n rfl (.tup upd_same (dpAll_app (dpAll_mono n.g h2) (dpAll_mono n.g h4)))

/-! ### calls of built-ins -/
/-- what a call's rule does on data -/
def RDc (K : PySem.W.Frag) (r : List V → Hp → VK → Prop) (P : List PyData → Prop) (R : PyData → Prop) : Prop := ∀ xs ds G H, P ds → Same G H → DpAll K G xs ds → ∀ k : VK, (∀ v d G' H', Nxt G H G' H' → R d → Dp K G' v d → k v H') → r xs H k
theorem t_cb {r : List V → Hp → VK → Prop} {K : PySem.W.Frag} {P : List PyData → Prop} (hr : RDc K r P R) : ∀ σ H k, tD K ρ R σ H k → tCB r (tDs K ρ P) σ H k := by
  rintro σ H k ⟨G, s, en, q⟩
  exact ⟨G, s, en, fun xs ds G1 H1 n1 p1 d1 => hr xs ds G1 H1 p1 n1.s d1 k fun v d G' H' n pd dp => q v d G' H' (n1.trans n) pd dp⟩
theorem de_callB {r : List V → Hp → VK → Prop} {P : List PyData → Prop} {id : String} {x : Str} (hc : CallR X (.builtin id) r) (hr : RDc X.K r P R) (hg : Gl X x) (hm : X.mg x = none) (hv : bootBuiltins x = some (.builtin id)) (ha : DasR X (e :: es) ρ P) (hn : x ≠ "__name__" := by decide) (hdb : (x == ("__debug__" : Str)) = false := by decide)
    (he : starEach (e :: es) X.env = (false, eval e X.env) :: starEach es X.env := by rfl) (hpl : (backTo pos (starEach es X.env)).any (·.1) = false := by rfl) : DeR X (.Call (.Name x p) (e :: es) [] pos) ρ R :=
  pe_wk (pe_callB hc hg hm hv ha hn hdb he hpl) (t_cb hr)
theorem de_callTy {r : List V → Hp → VK → Prop} {P : List PyData → Prop} {T : String} {x : Str} (hc : CallR X (.type T) r) (hr : RDc X.K r P R) (hg : Gl X x) (hm : X.mg x = none) (hv : bootBuiltins x = some (.type T)) (ha : DasR X (e :: es) ρ P) (hn : x ≠ "__name__" := by decide) (hdb : (x == ("__debug__" : Str)) = false := by decide)
    (he : starEach (e :: es) X.env = (false, eval e X.env) :: starEach es X.env := by rfl) (hpl : (backTo pos (starEach es X.env)).any (·.1) = false := by rfl) : DeR X (.Call (.Name x p) (e :: es) [] pos) ρ R :=
  pe_wk (pe_callTy hc hg hm hv ha hn hdb he hpl) (t_cb hr)
theorem dp1 {K : PySem.W.Frag} {G : Hp} {xs : List V} (h : DpAll K G xs [d]) : ∃ v, xs = [v] ∧ Dp K G v d := by
  cases h with
  | cons h a => cases a; exact ⟨_, rfl, h⟩
theorem dp2 {K : PySem.W.Frag} {G : Hp} {xs : List V} {d' : PyData} (h : DpAll K G xs [d, d']) : ∃ v w, xs = [v, w] ∧ Dp K G v d ∧ Dp K G w d' := by
  cases h with
  | cons h a =>
    cases a with
    | cons h' a => cases a; exact ⟨_, _, rfl, h, h'⟩
/-- len -/
theorem de_lenL {P : List PyData → Prop} {R : PyData → Prop} (hm : X.mg "len" = none) (ha : DeR X a ρ (fun d => ∃ ds, P ds ∧ d = .list ds)) (hR : ∀ ds, P ds → R (.int ds.length)) (hg : Gl X "len" := by rfl) (hs : starEach [a] X.env = (false, eval a X.env) :: starEach [] X.env := by rfl) : DeR X (.Call (.Name "len" p) [a] [] pos) ρ R := by
  refine de_callB call_len ?_ hg hm boot_len (das_oneR ha hs) (he := hs) (hpl := by rfl)
  rintro xs _ G H ⟨_, ⟨ds, pd, rfl⟩, rfl⟩ s dp k q
  obtain ⟨v, rfl, dv⟩ := dp1 dp
  obtain ⟨t, ys, rfl, h1, h2⟩ := dp_lst_inv dv
  exact ⟨_, ds.length, rfl, .inl ⟨ys, s.seq h1, (dpAll_len h2).symm⟩, q _ _ G H (Nxt.refl s) (hR ds pd) (.int _)⟩
theorem de_lenT {ds : List PyData} (hm : X.mg "len" = none) (ha : De X a ρ (.tuple ds)) (hg : Gl X "len" := by rfl) (hs : starEach [a] X.env = (false, eval a X.env) :: starEach [] X.env := by rfl) : De X (.Call (.Name "len" p) [a] [] pos) ρ (.int ds.length) := by
  refine de_callB call_len ?_ hg hm boot_len (das_oneR ha hs) (he := hs) (hpl := by rfl)
  rintro xs _ G H ⟨_, rfl, rfl⟩ s dp k q
  obtain ⟨v, rfl, dv⟩ := dp1 dp
  obtain ⟨t, ys, rfl, h1, h2⟩ := dp_tup_inv dv
  exact ⟨_, ds.length, rfl, .inr ⟨ys, same_t s h1, (dpAll_len h2).symm⟩, q _ _ G H (Nxt.refl s) rfl (.int _)⟩
end
end TW
/-! TWE: built-in calls over data, comprehensions, blocks, defs. -/
namespace TW
open PySem PySem.Spec PyProof.Rows L2

/-! ### min, max, sum of a tuple of ints -/
section
variable {prog : Program} {w : World} {A : Around} {E : Value → Shared → Prop} {s : Shared} {l : Addr} {xs : Array (Int × Tok)} {its : List Value} {ns : List Int} {Q : Value → Shared → Prop}
theorem iter_intTup {Q : Value → Shared → Prop} (hl : s.heap.IsTuple l (intItems xs))
    (h : ∀ s₂ : Shared, s₂ = { s with heap := s.heap.push { cls := .type "tuple_iterator", data := .fields #[.ref l, .int 0 0] } } →
      (s₂.heap.IsTupleIter s.heap.objs.size l 0 ∧ s₂.heap.IsTuple l (intItems xs)) → (∀ b ∈ [s.heap.objs.size, l], b < s₂.heap.objs.size) → l ≠ s.heap.objs.size → Q (.ref s.heap.objs.size) s₂) :
    wpAny (model prog w) A (pyIter (.ref l)) Q E s := by
  have hlt : l < s.heap.objs.size := by obtain ⟨_, e, _⟩ := hl; exact Heap.lt_size e
  refine wpAny_pyIter_tuple hl (h _ rfl ⟨⟨_, Heap.get?_push_size _ rfl, rfl, rfl⟩, hl.push _⟩ (fun b hb => ?_) (Nat.ne_of_lt hlt))
  show b < (s.heap.push _).objs.size
  rw [Heap.size_push]
  rcases List.mem_cons.mp hb with rfl | hb
  · exact Nat.lt_succ_self _
  · rcases List.mem_cons.mp hb with rfl | hb
    · exact Nat.lt_succ_of_lt hlt
    · cases hb
theorem old_keptT {h' : Heap} (hk : ∀ b o, b ∉ [s.heap.objs.size] → (s.heap.push { cls := .type "tuple_iterator", data := .fields #[.ref l, .int 0 0] }).get? b = some o → h'.get? b = some o) :
    ∀ b o, s.heap.get? b = some o → h'.get? b = some o := fun b o e => by
  refine hk b o (fun hm => ?_) (Heap.get?_push_of_some _ e)
  rcases List.mem_cons.mp hm with e1 | hm
  · exact absurd (e1 ▸ Heap.lt_size e) (Nat.lt_irrefl _)
  · cases hm
theorem sum_rawT (hh : A.handled = none) (hl : s.heap.IsTuple l its.toArray) (hi : IntsAre its ns)
    (h : ∀ h' tk t', (∀ b o, s.heap.get? b = some o → h'.get? b = some o) → Q (.int ns.sum t') { s with heap := h', toks := tk }) : wpAny (model prog w) A (call (.builtin "sum") [.ref l]) Q E s := by
  obtain ⟨xs, e⟩ := hi.allInts.items
  have hn : numsOf (intItems xs).toList = ns := by rw [← e]; exact hi.numsOf
  rw [nums_intItems] at hn
  rw [e] at hl
  refine call_sum_walkG (iter_intTup hl fun s₂ e st hfp hlI => ?_)
  subst e
  refine ⟨_, _, _, _, _, _, numAt xs, rfl, Walks.tuple (A := A.in1) hh _ l hlI (intItems xs), st, hfp, (fun _ _ => intItems_at), fun h' tk t' hk => ?_⟩
  have := h h' tk t' (old_keptT hk)
  have e2 : preSum (numAt xs) (intItems xs).size = ns.sum := by
    rw [show (intItems xs).size = xs.size by simp [intItems], preSum_eq, List.take_of_length_le (by simp), hn]
  rw [e2]
  exact this
theorem max_rawT (hh : A.handled = none) (hl : s.heap.IsTuple l its.toArray) (hi : IntsAre its ns) (hne : 0 < ns.length)
    (h : ∀ h' tk M t', (∀ b o, s.heap.get? b = some o → h'.get? b = some o) → M ∈ ns → (∀ a, a ∈ ns → a ≤ M) → Q (.int M t') { s with heap := h', toks := tk }) : wpAny (model prog w) A (call (.builtin "max") [.ref l]) Q E s := by
  obtain ⟨xs, e⟩ := hi.allInts.items
  have hn : numsOf (intItems xs).toList = ns := by rw [← e]; exact hi.numsOf
  rw [nums_intItems] at hn
  subst hn
  rw [e] at hl
  have hsz : 0 < xs.size := by simpa using hne
  refine call_max_walk (iter_intTup hl fun s₂ e st hfp hlI => ?_)
  subst e
  refine ⟨_, _, _, _, _, _, _, rfl, Walks.tuple (A := A.in1) hh _ l hlI (intItems xs), st, hfp, by simpa [intItems] using hsz, CmpOf.ints_gt (numAt xs) (fun _ _ => intItems_at), fun v h' tk hP hk => ?_⟩
  rw [show (intItems xs).size - 1 = xs.size - 1 by simp [intItems]] at hP
  obtain ⟨t, rfl⟩ := intItems_at hP
  obtain ⟨h1, h2⟩ := argBest_gt (numAt xs) (xs.size - 1)
  refine h h' tk _ t (old_keptT hk) ?_ fun a ha => ?_
  · rw [numAt_eq]; exact PySem.getD_mem (by rw [List.length_map, Array.length_toList]; omega)
  · obtain ⟨j, hj, rfl⟩ := mem_getD ha
    rw [List.length_map, Array.length_toList] at hj
    rw [← numAt_eq]; exact h2 j (by omega)
theorem min_rawT (hh : A.handled = none) (hl : s.heap.IsTuple l its.toArray) (hi : IntsAre its ns) (hne : 0 < ns.length)
    (h : ∀ h' tk M t', (∀ b o, s.heap.get? b = some o → h'.get? b = some o) → M ∈ ns → (∀ a, a ∈ ns → M ≤ a) → Q (.int M t') { s with heap := h', toks := tk }) : wpAny (model prog w) A (call (.builtin "min") [.ref l]) Q E s := by
  obtain ⟨xs, e⟩ := hi.allInts.items
  have hn : numsOf (intItems xs).toList = ns := by rw [← e]; exact hi.numsOf
  rw [nums_intItems] at hn
  subst hn
  rw [e] at hl
  have hsz : 0 < xs.size := by simpa using hne
  refine call_min_walk (iter_intTup hl fun s₂ e st hfp hlI => ?_)
  subst e
  refine ⟨_, _, _, _, _, _, _, rfl, Walks.tuple (A := A.in1) hh _ l hlI (intItems xs), st, hfp, by simpa [intItems] using hsz, CmpOf.ints_lt (numAt xs) (fun _ _ => intItems_at), fun v h' tk hP hk => ?_⟩
  rw [show (intItems xs).size - 1 = xs.size - 1 by simp [intItems]] at hP
  obtain ⟨t, rfl⟩ := intItems_at hP
  obtain ⟨h1, h2⟩ := argBest_lt (numAt xs) (xs.size - 1)
  refine h h' tk _ t (old_keptT hk) ?_ fun a ha => ?_
  · rw [numAt_eq]; exact PySem.getD_mem (by rw [List.length_map, Array.length_toList]; omega)
  · obtain ⟨j, hj, rfl⟩ := mem_getD ha
    rw [List.length_map, Array.length_toList] at hj
    rw [← numAt_eq]; exact h2 j (by omega)
end
section
variable {X : Cx}
def rSumT (K : PySem.W.Frag) : List V → Hp → VK → Prop := fun vs H Q => ∃ (a : Addr) (ns : List Int), vs = [V.ref a] ∧ SqT K H a (ns.map V.int) ∧ Q (.int ns.sum) H
def rMaxT (K : PySem.W.Frag) : List V → Hp → VK → Prop := fun vs H Q => ∃ (a : Addr) (ns : List Int), vs = [V.ref a] ∧ SqT K H a (ns.map V.int) ∧ 0 < ns.length ∧ ∀ m, m ∈ ns → (∀ y, y ∈ ns → y ≤ m) → Q (.int m) H
def rMinT (K : PySem.W.Frag) : List V → Hp → VK → Prop := fun vs H Q => ∃ (a : Addr) (ns : List Int), vs = [V.ref a] ∧ SqT K H a (ns.map V.int) ∧ 0 < ns.length ∧ ∀ m, m ∈ ns → (∀ y, y ∈ ns → m ≤ y) → Q (.int m) H
theorem cr_sumT (hc : X.calm = true) : CallR X (.builtin "sum") (rSumT X.K) := by
  intro pins s σ H vs us Q I r h
  obtain ⟨a, ns, rfl, hs, q⟩ := h
  obtain ⟨its, rv, hl, _⟩ := I.tuple hs
  rw [Vals.ref1 r]
  exact sum_rawT (I.ok.hd hc) (show s.heap.IsTuple a its.toArray from hl) rv.ints fun h' tk t' hk => ⟨.int _, H, I.kept hk, ⟨_, rfl⟩, q⟩
theorem cr_maxT (hc : X.calm = true) : CallR X (.builtin "max") (rMaxT X.K) := by
  intro pins s σ H vs us Q I r h
  obtain ⟨a, ns, rfl, hs, hne, q⟩ := h
  obtain ⟨its, rv, hl, _⟩ := I.tuple hs
  rw [Vals.ref1 r]
  exact max_rawT (I.ok.hd hc) (show s.heap.IsTuple a its.toArray from hl) rv.ints hne fun h' tk m t' hk h1 h2 => ⟨.int _, H, I.kept hk, ⟨_, rfl⟩, q m h1 h2⟩
theorem cr_minT (hc : X.calm = true) : CallR X (.builtin "min") (rMinT X.K) := by
  intro pins s σ H vs us Q I r h
  obtain ⟨a, ns, rfl, hs, hne, q⟩ := h
  obtain ⟨its, rv, hl, _⟩ := I.tuple hs
  rw [Vals.ref1 r]
  exact min_rawT (I.ok.hd hc) (show s.heap.IsTuple a its.toArray from hl) rv.ints hne fun h' tk m t' hk h1 h2 => ⟨.int _, H, I.kept hk, ⟨_, rfl⟩, q m h1 h2⟩
end

/-! ### calls over data -/
section
variable {X : Cx} {ρ : DEnv} {e a b c : Expr} {es : List Expr} {P Q R : PyData → Prop} {d : PyData} {pos p p2 : Pos}
theorem ints_of {K : PySem.W.Frag} {G : Hp} {v : V} {ns : List Int} (h : Dp K G v (.list (ns.map .int))) : ∃ a, v = .ref a ∧ SqL K G a (ns.map V.int) := by
  obtain ⟨a, xs, rfl, h1, h2⟩ := dp_lst_inv h
  rw [dpAll_ints_inv h2] at h1
  exact ⟨a, rfl, h1⟩
theorem intsT_of {K : PySem.W.Frag} {G : Hp} {v : V} {ns : List Int} (h : Dp K G v (.tuple (ns.map .int))) : ∃ a, v = .ref a ∧ SqT K G a (ns.map V.int) := by
  obtain ⟨a, xs, rfl, h1, h2⟩ := dp_tup_inv h
  rw [dpAll_ints_inv h2] at h1
  exact ⟨a, rfl, h1⟩
theorem bools_of {K : PySem.W.Frag} {G : Hp} {v : V} {ns : List Bool} (h : Dp K G v (.list (ns.map .bool))) : ∃ a, v = .ref a ∧ SqL K G a (ns.map V.bl) := by
  obtain ⟨a, xs, rfl, h1, h2⟩ := dp_lst_inv h
  rw [dpAll_bools_inv h2] at h1
  exact ⟨a, rfl, h1⟩
theorem de_all {ns : List Bool} (hc : X.calm = true) (hm : X.mg "all" = none) (ha : De X a ρ (.list (ns.map .bool))) (hg : Gl X "all" := by rfl) (hs : starEach [a] X.env = (false, eval a X.env) :: starEach [] X.env := by rfl) : De X (.Call (.Name "all" p) [a] [] pos) ρ (.bool (ns.all id)) := by
  refine de_callB (cr_all hc) ?_ hg hm boot_all (das_oneR ha hs) (he := hs) (hpl := by rfl)
  rintro xs _ G H ⟨_, rfl, rfl⟩ s dp k q
  obtain ⟨v, rfl, dv⟩ := dp1 dp
  obtain ⟨t, rfl, h1⟩ := bools_of dv
  exact ⟨t, ns, rfl, s.seq h1, q _ _ G H (Nxt.refl s) rfl (.bl _)⟩
theorem de_any {ns : List Bool} (hc : X.calm = true) (hm : X.mg "any" = none) (ha : De X a ρ (.list (ns.map .bool))) (hg : Gl X "any" := by rfl) (hs : starEach [a] X.env = (false, eval a X.env) :: starEach [] X.env := by rfl) : De X (.Call (.Name "any" p) [a] [] pos) ρ (.bool (ns.any id)) := by
  refine de_callB (cr_any hc) ?_ hg hm boot_any (das_oneR ha hs) (he := hs) (hpl := by rfl)
  rintro xs _ G H ⟨_, rfl, rfl⟩ s dp k q
  obtain ⟨v, rfl, dv⟩ := dp1 dp
  obtain ⟨t, rfl, h1⟩ := bools_of dv
  exact ⟨t, ns, rfl, s.seq h1, q _ _ G H (Nxt.refl s) rfl (.bl _)⟩
theorem de_sumL {P : List Int → Prop} {R : PyData → Prop} (hc : X.calm = true) (hm : X.mg "sum" = none) (ha : DeR X a ρ (fun d => ∃ ns : List Int, P ns ∧ d = .list (ns.map .int))) (hR : ∀ ns, P ns → R (.int ns.sum)) (hg : Gl X "sum" := by rfl) (hs : starEach [a] X.env = (false, eval a X.env) :: starEach [] X.env := by rfl) : DeR X (.Call (.Name "sum" p) [a] [] pos) ρ R := by
  refine de_callB (cr_sum hc) ?_ hg hm boot_sum (das_oneR ha hs) (he := hs) (hpl := by rfl)
  rintro xs _ G H ⟨_, ⟨ns, pn, rfl⟩, rfl⟩ s dp k q
  obtain ⟨v, rfl, dv⟩ := dp1 dp
  obtain ⟨t, rfl, h1⟩ := ints_of dv
  exact ⟨t, ns, rfl, s.seq h1, q _ _ G H (Nxt.refl s) (hR ns pn) (.int _)⟩
theorem de_sumT {ns : List Int} (hc : X.calm = true) (hm : X.mg "sum" = none) (ha : De X a ρ (.tuple (ns.map .int))) (hg : Gl X "sum" := by rfl) (hs : starEach [a] X.env = (false, eval a X.env) :: starEach [] X.env := by rfl) : De X (.Call (.Name "sum" p) [a] [] pos) ρ (.int ns.sum) := by
  refine de_callB (cr_sumT hc) ?_ hg hm boot_sum (das_oneR ha hs) (he := hs) (hpl := by rfl)
  rintro xs _ G H ⟨_, rfl, rfl⟩ s dp k q
  obtain ⟨v, rfl, dv⟩ := dp1 dp
  obtain ⟨t, rfl, h1⟩ := intsT_of dv
  exact ⟨t, ns, rfl, same_t s h1, q _ _ G H (Nxt.refl s) rfl (.int _)⟩
def IsMax (ns : List Int) (m : Int) : Prop := m ∈ ns ∧ ∀ y, y ∈ ns → y ≤ m
def IsMin (ns : List Int) (m : Int) : Prop := m ∈ ns ∧ ∀ y, y ∈ ns → m ≤ y
theorem IsMax.uniq {ns : List Int} {m k : Int} (h : IsMax ns m) (h' : IsMax ns k) : m = k := Int.le_antisymm (h'.2 m h.1) (h.2 k h'.1)
theorem IsMin.uniq {ns : List Int} {m k : Int} (h : IsMin ns m) (h' : IsMin ns k) : m = k := Int.le_antisymm (h.2 k h'.1) (h'.2 m h.1)
theorem mem_pos {ns : List Int} {m : Int} (h : m ∈ ns) : 0 < ns.length := List.length_pos_of_mem h
theorem de_maxL {P : List Int → Prop} {R : PyData → Prop} (hc : X.calm = true) (hm : X.mg "max" = none) (ha : DeR X a ρ (fun d => ∃ ns : List Int, P ns ∧ d = .list (ns.map .int))) (hp : ∀ ns, P ns → 0 < ns.length) (hR : ∀ ns m, P ns → IsMax ns m → R (.int m)) (hg : Gl X "max" := by rfl) (hs : starEach [a] X.env = (false, eval a X.env) :: starEach [] X.env := by rfl) : DeR X (.Call (.Name "max" p) [a] [] pos) ρ R := by
  refine de_callB (cr_max hc) ?_ hg hm boot_max (das_oneR ha hs) (he := hs) (hpl := by rfl)
  rintro xs _ G H ⟨_, ⟨ns, pn, rfl⟩, rfl⟩ s dp k q
  obtain ⟨v, rfl, dv⟩ := dp1 dp
  obtain ⟨t, rfl, h1⟩ := ints_of dv
  exact ⟨t, ns, rfl, s.seq h1, hp ns pn, fun m h2 h3 => q _ _ G H (Nxt.refl s) (hR ns m pn ⟨h2, h3⟩) (.int _)⟩
theorem de_maxT {ns : List Int} {m : Int} (hc : X.calm = true) (hm : X.mg "max" = none) (ha : De X a ρ (.tuple (ns.map .int))) (hM : IsMax ns m) (hg : Gl X "max" := by rfl) (hs : starEach [a] X.env = (false, eval a X.env) :: starEach [] X.env := by rfl) : De X (.Call (.Name "max" p) [a] [] pos) ρ (.int m) := by
  refine de_callB (cr_maxT hc) ?_ hg hm boot_max (das_oneR ha hs) (he := hs) (hpl := by rfl)
  rintro xs _ G H ⟨_, rfl, rfl⟩ s dp k q
  obtain ⟨v, rfl, dv⟩ := dp1 dp
  obtain ⟨t, rfl, h1⟩ := intsT_of dv
  exact ⟨t, ns, rfl, same_t s h1, mem_pos hM.1, fun k' h2 h3 => q _ _ G H (Nxt.refl s) (by rw [hM.uniq ⟨h2, h3⟩]) (.int _)⟩
theorem de_minT {ns : List Int} {m : Int} (hc : X.calm = true) (hm : X.mg "min" = none) (ha : De X a ρ (.tuple (ns.map .int))) (hM : IsMin ns m) (hg : Gl X "min" := by rfl) (hs : starEach [a] X.env = (false, eval a X.env) :: starEach [] X.env := by rfl) : De X (.Call (.Name "min" p) [a] [] pos) ρ (.int m) := by
  refine de_callB (cr_minT hc) ?_ hg hm boot_min (das_oneR ha hs) (he := hs) (hpl := by rfl)
  rintro xs _ G H ⟨_, rfl, rfl⟩ s dp k q
  obtain ⟨v, rfl, dv⟩ := dp1 dp
  obtain ⟨t, rfl, h1⟩ := intsT_of dv
  exact ⟨t, ns, rfl, same_t s h1, mem_pos hM.1, fun k' h2 h3 => q _ _ G H (Nxt.refl s) (by rw [hM.uniq ⟨h2, h3⟩]) (.int _)⟩
/-- max(a, b), min(a, b), abs -/
theorem de_max2 {i j : Int} (hc : X.calm = true) (hm : X.mg "max" = none) (ha : De X a ρ (.int i)) (hb : De X b ρ (.int j)) (hg : Gl X "max" := by rfl) (hs : starEach [a, b] X.env = (false, eval a X.env) :: starEach [b] X.env := by rfl) (hs2 : starEach [b] X.env = (false, eval b X.env) :: starEach [] X.env := by rfl) (hpl : (backTo pos (starEach [b] X.env)).any (·.1) = false := by rfl) :
    De X (.Call (.Name "max" p) [a, b] [] pos) ρ (.int (max i j)) := by
  refine de_callB (call_max2 hc) ?_ hg hm boot_max (das_cons ha (das_cons hb das_nil hs2) hs) (he := hs) (hpl := hpl)
  rintro xs _ G H rfl s dp k q
  obtain ⟨v, w, rfl, dv, dw⟩ := dp2 dp
  cases dv; cases dw
  refine ⟨i, j, rfl, q _ _ G H (Nxt.refl s) (?_ : PyData.int (if j > i then j else i) = _) (.int _)⟩
  congr 1
  split <;> omega
theorem de_min2 {i j : Int} (hc : X.calm = true) (hm : X.mg "min" = none) (ha : De X a ρ (.int i)) (hb : De X b ρ (.int j)) (hg : Gl X "min" := by rfl) (hs : starEach [a, b] X.env = (false, eval a X.env) :: starEach [b] X.env := by rfl) (hs2 : starEach [b] X.env = (false, eval b X.env) :: starEach [] X.env := by rfl) (hpl : (backTo pos (starEach [b] X.env)).any (·.1) = false := by rfl) :
    De X (.Call (.Name "min" p) [a, b] [] pos) ρ (.int (min i j)) := by
  refine de_callB (call_min2 hc) ?_ hg hm boot_min (das_cons ha (das_cons hb das_nil hs2) hs) (he := hs) (hpl := hpl)
  rintro xs _ G H rfl s dp k q
  obtain ⟨v, w, rfl, dv, dw⟩ := dp2 dp
  cases dv; cases dw
  refine ⟨i, j, rfl, q _ _ G H (Nxt.refl s) (?_ : PyData.int (if j < i then j else i) = _) (.int _)⟩
  congr 1
  split <;> omega
theorem de_abs {i : Int} (hm : X.mg "abs" = none) (ha : De X a ρ (.int i)) (hg : Gl X "abs" := by rfl) (hs : starEach [a] X.env = (false, eval a X.env) :: starEach [] X.env := by rfl) : De X (.Call (.Name "abs" p) [a] [] pos) ρ (.int i.natAbs) := by
  refine de_callB call_abs ?_ hg hm boot_abs (das_oneR ha hs) (he := hs) (hpl := by rfl)
  rintro xs _ G H ⟨_, rfl, rfl⟩ s dp k q
  obtain ⟨v, rfl, dv⟩ := dp1 dp
  cases dv
  refine ⟨i, rfl, q _ _ G H (Nxt.refl s) (?_ : PyData.int (if i < 0 then -i else i) = _) (.int _)⟩
  congr 1
  split <;> omega
/-- tuple(list), list(list), list(tuple) -/
theorem de_tupleL {P : List PyData → Prop} (hm : X.mg "tuple" = none) (ha : DeR X a ρ (fun d => ∃ ds, P ds ∧ d = .list ds)) (hg : Gl X "tuple" := by rfl) (hs : starEach [a] X.env = (false, eval a X.env) :: starEach [] X.env := by rfl) : DeR X (.Call (.Name "tuple" p) [a] [] pos) ρ (fun d => ∃ ds, P ds ∧ d = .tuple ds) := by
  refine de_callTy call_tuple_of ?_ hg hm PyProof.Rows.boot_tuple (das_oneR ha hs) (he := hs) (hpl := by rfl)
  rintro xs _ G H ⟨_, ⟨ds, pd, rfl⟩, rfl⟩ s dp k q
  obtain ⟨v, rfl, dv⟩ := dp1 dp
  obtain ⟨t, ys, rfl, h1, h2⟩ := dp_lst_inv dv
  refine ⟨t, ys, rfl, .inl ⟨s.seq h1, fun l hl => ?_⟩⟩
  have n := Nxt.new (o := .tup ys) s hl
  exact q _ _ _ _ n ⟨ds, pd, rfl⟩ (.tup upd_same (dpAll_mono n.g h2))
theorem de_tupleE {ds : List PyData} (hm : X.mg "tuple" = none) (ha : De X a ρ (.list ds)) (hg : Gl X "tuple" := by rfl) (hs : starEach [a] X.env = (false, eval a X.env) :: starEach [] X.env := by rfl) : De X (.Call (.Name "tuple" p) [a] [] pos) ρ (.tuple ds) :=
  de_imp (de_tupleL (P := fun x => x = ds) hm (de_imp ha fun d h => ⟨ds, rfl, h⟩) hg hs) fun d ⟨_, e1, e2⟩ => by rw [e2, e1]
theorem de_listL {P : List PyData → Prop} (hm : X.mg "list" = none) (ha : DeR X a ρ (fun d => ∃ ds, P ds ∧ d = .list ds)) (hg : Gl X "list" := by rfl) (hs : starEach [a] X.env = (false, eval a X.env) :: starEach [] X.env := by rfl) : DeR X (.Call (.Name "list" p) [a] [] pos) ρ (fun d => ∃ ds, P ds ∧ d = .list ds) := by
  refine de_callTy call_list_of ?_ hg hm PyProof.Rows.boot_list (das_oneR ha hs) (he := hs) (hpl := by rfl)
  rintro xs _ G H ⟨_, ⟨ds, pd, rfl⟩, rfl⟩ s dp k q
  obtain ⟨v, rfl, dv⟩ := dp1 dp
  obtain ⟨t, ys, rfl, h1, h2⟩ := dp_lst_inv dv
  refine ⟨t, ys, rfl, .inl (s.seq h1), fun l hl => ?_⟩
  have n := Nxt.new (o := .lst ys) s hl
  exact q _ _ _ _ n ⟨ds, pd, rfl⟩ (.lst (.inl (.inl upd_same)) (dpAll_mono n.g h2))
/-- isinstance(x, T), T a built-in type -/
theorem tyX_tup {K : PySem.W.Frag} {H : Hp} {a : Addr} {xs : List V} (h : SqT K H a xs) : TyX K H (.ref a) (.type "tuple") := by
  rcases h with (h | ⟨o, h⟩) | ⟨o, its, n, hk, hc, _⟩
  · exact .base (.tup h)
  · exact .fTuple h
  · exact .kTuple hk hc
theorem de_isi {T' T : String} {r : Bool} (hm : X.mg "isinstance" = none) (hmT : X.mg T = none) (ha : De X a ρ d) (ty : ∀ G v, Dp X.K G v d → TyX X.K G v (.type T')) (hk : kitB T' T = some r) (hv : bootBuiltins T = some (.type T)) (hg : Gl X "isinstance" := by rfl) (hgT : Gl X T := by rfl)
    (hn : (T : Str) ≠ "__name__" := by decide) (hdb : ((T : Str) == ("__debug__" : Str)) = false := by decide) (hs : starEach [a, .Name T p2] X.env = (false, eval a X.env) :: starEach [.Name T p2] X.env := by rfl) (hs2 : starEach [.Name (T : Str) p2] X.env = (false, eval (.Name (T : Str) p2) X.env) :: starEach [] X.env := by rfl) (hpl : (backTo pos (starEach [.Name (T : Str) p2] X.env)).any (·.1) = false := by rfl) :
    De X (.Call (.Name "isinstance" p) [a, .Name T p2] [] pos) ρ (.bool r) := by
  refine pe_wk (pe_callB call_isi hg hm PyProof.Rows.boot_isinstance (pa_cons ha (pa_cons (pe_bltn hgT hmT hv (v := .ty T) rfl hn hdb) pa_nil hs2) hs) (he := hs) (hpl := hpl)) ?_
  rintro σ H k ⟨G, s, en, q⟩
  refine ⟨G, s, en, fun x dx G1 H1 n1 p1 d1 => ?_⟩
  subst p1
  exact ⟨x, .ty T, .type T', .type T, r, rfl, .ty T, ty H1 x (dp_mono n1.s d1), kit_ty hk, q _ _ G1 H1 n1 rfl (.bl _)⟩

/-! a def of the text -/
def spD (K : PySem.W.Frag) (f : List PyData → (PyData → Prop) → Prop) : Sp := fun vs H Q _ => ∃ G ds P, Same G H ∧ DpAll K G vs ds ∧ f ds P ∧ ∀ v d G' H', Nxt G H G' H' → P d → Dp K G' v d → Q v H'
theorem de_callR {x : Str} {k : Nat} {g : Addr} {fd : FuncData} {ps : List Str} {f : List PyData → (PyData → Prop) → Prop} {Ps : List PyData → Prop} (F : FnOk X.prog X.w X.K X.mg X.base CX0 k g fd ps (spD X.K f)) (hr : Room k X.A) (hm : X.mg x = some (.ref g)) (hk : PySem.W.keepIn X.K (.ref g) = true) (hb : Binds X.K fd ps [])
    (ha : DasR X (e :: es) ρ Ps) (hf : ∀ ds, Ps ds → f ds R) (hg : Gl X x := by rfl) (hdb : (x == ("__debug__" : Str)) = false := by decide) (he : starEach (e :: es) X.env = (false, eval e X.env) :: starEach es X.env := by rfl) (hpl : (backTo pos (starEach es X.env)).any (·.1) = false := by rfl) :
    DeR X (.Call (.Name x p) (e :: es) [] pos) ρ R := by
  refine pe_wk (pe_call F hr hg hm hk hb .nil pass0 ha hdb he hpl) ?_
  rintro σ H Q ⟨G, s, en, q⟩
  refine ⟨G, s, en, fun vs ds G1 H1 n1 p1 d1 => ?_⟩
  show spD X.K f (vs ++ []) H1 Q E0
  rw [List.append_nil]
  exact ⟨G1, ds, R, n1.s, d1, hf ds p1, fun v d G' H' n pd dp => q v d G' H' (n1.trans n) pd dp⟩
theorem de_call {x : Str} {k : Nat} {g : Addr} {fd : FuncData} {ps : List Str} {f : List PyData → (PyData → Prop) → Prop} {ds : List PyData} (F : FnOk X.prog X.w X.K X.mg X.base CX0 k g fd ps (spD X.K f)) (hr : Room k X.A) (hm : X.mg x = some (.ref g)) (hk : PySem.W.keepIn X.K (.ref g) = true) (hb : Binds X.K fd ps [])
    (ha : Das X (e :: es) ρ ds) (hf : f ds R) (hg : Gl X x := by rfl) (hdb : (x == ("__debug__" : Str)) = false := by decide) (he : starEach (e :: es) X.env = (false, eval e X.env) :: starEach es X.env := by rfl) (hpl : (backTo pos (starEach es X.env)).any (·.1) = false := by rfl) :
    DeR X (.Call (.Name x p) (e :: es) [] pos) ρ R := de_callR F hr hm hk hb ha (fun _ h => h ▸ hf) hg hdb he hpl
end

/-! ### tests -/
section
variable {X : Cx} {ρ : DEnv} {e a b c : Expr} {es rest : List Expr} {pos p p2 : Pos} {x y : Bool}
theorem dt_val (h : De X e ρ (.bool x)) (he : ∀ whole, isTrue e X.env whole = (do let v ← whole; standAt e.pos; holding [v] (truthy v)) := by intro _; rfl) : Dt X e ρ x := by
  refine pt_wk (pt_val h he) ?_
  rintro σ H Q ⟨G, s, en, q⟩
  refine ⟨G, s, en, fun v d G1 H1 n1 p1 d1 => ?_⟩
  subst p1
  cases d1
  exact ⟨x, rfl, q G1 H1 n1⟩
theorem pt_test_wk {t : TE} (h : PT X e (tTest t)) (w : ∀ σ H k, tDt X.K ρ x σ H k → t σ H (fun v H' => ∃ b, v = .bl b ∧ k b H')) : Dt X e ρ x := pt_wk h w
abbrev Dw (X : Cx) (e : Expr) (ρ : DEnv) (b : Bool) : Prop := PW X e (tDt X.K ρ b)
theorem pw_wk {c c' : TT} (h : PW X e c) (w : ∀ σ H Q, c' σ H Q → c σ H Q) : PW X e c' := ⟨fun wh pins s σ H Q I q => h.run wh pins s σ H Q I (w _ _ _ q)⟩
theorem dw_and1 (h : Dt X a ρ x) : Dw X (.BoolOp .And [a] pos) ρ x := pw_and1 h
theorem dw_or1 (h : Dt X a ρ x) : Dw X (.BoolOp .Or [a] pos) ρ x := pw_or1 h
theorem dw_and (h : Dt X a ρ x) (h2 : x = true → Dw X (.BoolOp .And (b :: rest) pos) ρ y) : Dw X (.BoolOp .And (a :: b :: rest) pos) ρ (x && y) := by
  cases x with
  | true =>
    refine pw_wk (pw_and h (h2 rfl)) ?_
    rintro σ H Q ⟨G, s, en, q⟩
    refine ⟨G, s, en, fun G1 H1 n1 => ?_⟩
    refine iteT ?_
    exact ⟨G1, n1.s, en.mono n1.g, fun G2 H2 n2 => q G2 H2 (n1.trans n2)⟩
  | false =>
    have hv : PW X (.BoolOp .And (b :: rest) pos) (fun _ _ _ => False) := ⟨fun _ _ _ _ _ _ _ h => h.elim⟩
    refine pw_wk (pw_and h hv) ?_
    rintro σ H Q ⟨G, s, en, q⟩
    refine ⟨G, s, en, fun G1 H1 n1 => ?_⟩
    refine iteF ?_
    exact q G1 H1 n1
theorem dw_or (h : Dt X a ρ x) (h2 : x = false → Dw X (.BoolOp .Or (b :: rest) pos) ρ y) : Dw X (.BoolOp .Or (a :: b :: rest) pos) ρ (x || y) := by
  cases x with
  | false =>
    refine pw_wk (pw_or h (h2 rfl)) ?_
    rintro σ H Q ⟨G, s, en, q⟩
    refine ⟨G, s, en, fun G1 H1 n1 => ?_⟩
    refine iteF ?_
    exact ⟨G1, n1.s, en.mono n1.g, fun G2 H2 n2 => q G2 H2 (n1.trans n2)⟩
  | true =>
    have hv : PW X (.BoolOp .Or (b :: rest) pos) (fun _ _ _ => False) := ⟨fun _ _ _ _ _ _ _ h => h.elim⟩
    refine pw_wk (pw_or h hv) ?_
    rintro σ H Q ⟨G, s, en, q⟩
    refine ⟨G, s, en, fun G1 H1 n1 => ?_⟩
    refine iteT ?_
    exact q G1 H1 n1
theorem dt_w (h : Dw X e ρ x) : Dt X e ρ x := h.pt
theorem dt_not (h : Dt X a ρ x) : Dt X (.UnaryOp .Not a pos) ρ (!x) := by
  refine pt_wk (pt_not h) ?_
  rintro σ H Q ⟨G, s, en, q⟩
  exact ⟨G, s, en, fun G1 H1 n1 => q G1 H1 n1⟩
theorem de_not (h : De X a ρ (.bool x)) : De X (.UnaryOp .Not a pos) ρ (.bool (!x)) := by
  refine pe_wk (pe_not h) ?_
  rintro σ H Q ⟨G, s, en, q⟩
  refine ⟨G, s, en, fun v d G1 H1 n1 p1 d1 => ?_⟩
  subst p1
  cases d1
  exact ⟨x, rfl, q _ _ G1 H1 n1 rfl (.bl _)⟩
/-- a and b as a value -/
theorem de_and (h : De X a ρ (.bool x)) (h2 : x = true → De X b ρ (.bool y)) : De X (.BoolOp .And [a, b] pos) ρ (.bool (x && y)) := by
  cases x with
  | true =>
    refine pe_wk (pe_and h (pe_one (h2 rfl))) ?_
    rintro σ H Q ⟨G, s, en, q⟩
    refine ⟨G, s, en, fun v d G1 H1 n1 p1 d1 => ?_⟩
    subst p1
    cases d1
    refine ⟨true, rfl, ?_⟩
    refine iteT ?_
    exact ⟨G1, n1.s, en.mono n1.g, fun v d G2 H2 n2 p2 d2 => q v d G2 H2 (n1.trans n2) (by rw [p2, Bool.true_and]) d2⟩
  | false =>
    have hv : PE X b (fun _ _ _ => False) := ⟨fun _ _ _ _ _ _ h => h.elim⟩
    refine pe_wk (pe_and h (pe_one hv)) ?_
    rintro σ H Q ⟨G, s, en, q⟩
    refine ⟨G, s, en, fun v d G1 H1 n1 p1 d1 => ?_⟩
    subst p1
    cases d1
    refine ⟨false, rfl, ?_⟩
    refine iteF ?_
    exact q _ _ G1 H1 n1 (by rw [Bool.false_and]) (.bl _)
/-- a if c else b -/
theorem de_if {d : PyData} (hc : Dt X c ρ x) (h1 : x = true → De X a ρ d) (h2 : x = false → De X b ρ d) : De X (.IfExp c a b pos) ρ d := by
  cases x with
  | true =>
    have hv : PE X b (fun _ _ _ => False) := ⟨fun _ _ _ _ _ _ h => h.elim⟩
    refine pe_wk (pe_ifExp hc (h1 rfl) hv) ?_
    rintro σ H Q ⟨G, s, en, q⟩
    refine ⟨G, s, en, fun G1 H1 n1 => ?_⟩
    refine iteT ?_
    exact ⟨G1, n1.s, en.mono n1.g, fun v d G2 H2 n2 p2 d2 => q v d G2 H2 (n1.trans n2) p2 d2⟩
  | false =>
    have hv : PE X a (fun _ _ _ => False) := ⟨fun _ _ _ _ _ _ h => h.elim⟩
    refine pe_wk (pe_ifExp hc hv (h2 rfl)) ?_
    rintro σ H Q ⟨G, s, en, q⟩
    refine ⟨G, s, en, fun G1 H1 n1 => ?_⟩
    refine iteF ?_
    exact ⟨G1, n1.s, en.mono n1.g, fun v d G2 H2 n2 p2 d2 => q v d G2 H2 (n1.trans n2) p2 d2⟩
end
end TW
/-! TWC: what is walked, comprehensions, blocks, defs, over data. -/
namespace TW
open PySem PySem.Spec PyProof.Rows L2

/-! ### what is walked -/
def IsIt (K : PySem.W.Frag) (J : It) (G0 : Hp) (ds : List PyData) : Prop :=
  Walk J ds.length (fun H => Same G0 H) (fun i H x H' => ∃ d, ds[i]? = some d ∧ ∀ G, Same G0 G → Same G H → ∃ G', Nxt G H G' H' ∧ Dp K G' x d)
def tI (K : PySem.W.Frag) (ρ : DEnv) (P : List PyData → Prop) : TI := fun σ H R => ∃ G, Same G H ∧ EnvD K G σ ρ ∧ ∀ J ds G' H', Nxt G H G' H' → P ds → IsIt K J G' ds → R J H'
abbrev Di (X : Cx) (tg e : Expr) (ρ : DEnv) (P : List PyData → Prop) : Prop := PI X tg e (tI X.K ρ P)
section
variable {X : Cx} {ρ : DEnv} {tg e a b c : Expr} {es : List Expr} {P : List PyData → Prop} {pos p p2 : Pos}
theorem pi_wk {t t' : TI} (h : PI X tg e t) (w : ∀ σ H R, t' σ H R → t σ H R) : PI X tg e t' := ⟨fun pins s σ H R I q => h.run pins s σ H R I (w _ _ _ q)⟩
theorem isIt_list {K : PySem.W.Frag} {G : Hp} {a : Addr} {xs : List V} {ds : List PyData} (h1 : SqL K G a xs) (h2 : DpAll K G xs ds) : IsIt K (Itl K a) G ds := by
  unfold IsIt
  rw [← dpAll_len h2]
  refine walk_list.mono (fun H s => s.seq h1) fun i H x H' hi s y => ?_
  obtain ⟨rfl, hx⟩ := y
  obtain ⟨d, hd, dd⟩ := dpAll_getV h2 hx
  exact ⟨d, hd, fun G' s1 s2 => ⟨G', Nxt.refl s2, dp_mono s1 dd⟩⟩
theorem isIt_tup {K : PySem.W.Frag} {G : Hp} {a : Addr} {xs : List V} {ds : List PyData} (h1 : SqT K G a xs) (h2 : DpAll K G xs ds) : IsIt K (Itt K a) G ds := by
  unfold IsIt
  rw [← dpAll_len h2]
  refine walk_tup.mono (fun H s => same_t s h1) fun i H x H' hi s y => ?_
  obtain ⟨rfl, hx⟩ := y
  obtain ⟨d, hd, dd⟩ := dpAll_getV h2 hx
  exact ⟨d, hd, fun G' s1 s2 => ⟨G', Nxt.refl s2, dp_mono s1 dd⟩⟩
theorem di_list (h : DeR X e ρ (fun d => ∃ ds, P ds ∧ d = .list ds)) : Di X tg e ρ P := by
  refine pi_wk (pi_list h) ?_
  rintro σ H R ⟨G, s, en, q⟩
  refine ⟨G, s, en, fun x dx G1 H1 n1 p1 d1 => ?_⟩
  obtain ⟨ds, pd, rfl⟩ := p1
  obtain ⟨a, xs, rfl, h1, h2⟩ := dp_lst_inv d1
  exact ⟨a, rfl, ⟨xs, n1.s.seq h1⟩, q _ ds G1 H1 n1 pd (isIt_list h1 h2)⟩
theorem di_listE {ds : List PyData} (h : De X e ρ (.list ds)) : Di X tg e ρ (· = ds) := di_list (de_imp h fun _ e => ⟨ds, rfl, e⟩)
theorem di_tup {ds : List PyData} (h : De X e ρ (.tuple ds)) : Di X tg e ρ (· = ds) := by
  refine pi_wk (pi_tup h) ?_
  rintro σ H R ⟨G, s, en, q⟩
  refine ⟨G, s, en, fun x dx G1 H1 n1 p1 d1 => ?_⟩
  subst p1
  obtain ⟨a, xs, rfl, h1, h2⟩ := dp_tup_inv d1
  exact ⟨a, rfl, ⟨xs, same_t n1.s h1⟩, q _ ds G1 H1 n1 rfl (isIt_tup h1 h2)⟩
theorem di_tupR (h : DeR X e ρ (fun d => ∃ ds, P ds ∧ d = .tuple ds)) : Di X tg e ρ P := by
  refine pi_wk (pi_tup h) ?_
  rintro σ H R ⟨G, s, en, q⟩
  refine ⟨G, s, en, fun x dx G1 H1 n1 p1 d1 => ?_⟩
  obtain ⟨ds, pd, rfl⟩ := p1
  obtain ⟨a, xs, rfl, h1, h2⟩ := dp_tup_inv d1
  exact ⟨a, rfl, ⟨xs, same_t n1.s h1⟩, q _ ds G1 H1 n1 pd (isIt_tup h1 h2)⟩
def rngP (lo : Int) (n : Nat) : List PyData := (List.range n).map fun (i : Nat) => PyData.int (lo + (i : Int))
theorem isIt_range {K : PySem.W.Frag} {G : Hp} {lo : Int} {n : Nat} : IsIt K (Itr lo n) G (rngP lo n) := by
  unfold IsIt rngP
  rw [List.length_map, List.length_range]
  refine walk_range.mono (fun _ _ => trivial) fun i H x H' hi s y => ?_
  obtain ⟨rfl, rfl⟩ := y
  exact ⟨.int (lo + i), by simp [hi], fun G' _ s2 => ⟨G', Nxt.refl s2, .int _⟩⟩
theorem di_range1 {n : Int} (hm : X.mg "range" = none) (h : De X a ρ (.int n)) (h1 : -(2 ^ 62) ≤ n) (h2 : n < 2 ^ 62) (hg : Gl X "range" := by rfl) (hs : starEach [a] X.env = (false, eval a X.env) :: starEach [] X.env := by rfl) (hs2 : starEach [a] X.env = [(false, eval a X.env)] := by rfl) :
    Di X tg (.Call (.Name "range" p) [a] [] pos) ρ (· = rngP 0 n.toNat) := by
  refine pi_wk (pi_range1 hg hm (das_cons h das_nil hs) hs2) ?_
  rintro σ H R ⟨G, s, en, q⟩
  refine ⟨G, s, en, fun xs ds G1 H1 n1 p1 d1 => ?_⟩
  subst p1
  obtain ⟨v, rfl, dv⟩ := dp1 d1
  cases dv
  exact ⟨n, rfl, h1, h2, q _ _ G1 H1 n1 rfl isIt_range⟩
theorem di_range2 {m n : Int} (hm : X.mg "range" = none) (h : De X a ρ (.int m)) (h' : De X b ρ (.int n)) (hb : -(2 ^ 62) ≤ m ∧ m < 2 ^ 62 ∧ -(2 ^ 62) ≤ n ∧ n < 2 ^ 62) (hg : Gl X "range" := by rfl) (hs : starEach [a, b] X.env = (false, eval a X.env) :: starEach [b] X.env := by rfl) (hs2 : starEach [b] X.env = (false, eval b X.env) :: starEach [] X.env := by rfl)
    (hs3 : starEach [a, b] X.env = [(false, eval a X.env), (false, eval b X.env)] := by rfl) (hs4 : starEach [b] X.env = [(false, eval b X.env)] := by rfl) : Di X tg (.Call (.Name "range" p) [a, b] [] pos) ρ (· = rngP m (n - m).toNat) := by
  refine pi_wk (pi_range2 hg hm (das_cons h (das_cons h' das_nil hs2) hs) hs3 hs4) ?_
  rintro σ H R ⟨G, s, en, q⟩
  refine ⟨G, s, en, fun xs ds G1 H1 n1 p1 d1 => ?_⟩
  subst p1
  obtain ⟨v, w, rfl, dv, dw⟩ := dp2 d1
  cases dv; cases dw
  exact ⟨m, n, rfl, hb, q _ _ G1 H1 n1 rfl isIt_range⟩
def zipP (xs ys : List PyData) : List PyData := (xs.zip ys).map fun p => .tuple [p.1, p.2]
theorem zipP_len (xs ys : List PyData) : (zipP xs ys).length = min xs.length ys.length := by simp [zipP]
theorem isIt_zip {K : PySem.W.Frag} {J : It} {G : Hp} {xs ys : List V} {ds es : List PyData} (h1 : DpAll K G xs ds) (h2 : DpAll K G ys es) (w : Walk J (min xs.length ys.length) (fun H => Same G H) (YPair (fun i => xs[i]?) (fun i => ys[i]?))) : IsIt K J G (zipP ds es) := by
  unfold IsIt
  rw [zipP_len, ← dpAll_len h1, ← dpAll_len h2]
  refine w.mono (fun _ s => s) fun i H x H' hi s y => ?_
  obtain ⟨T, x1, x2, rfl, hT, rfl, e1, e2⟩ := y
  obtain ⟨d1, g1, dd1⟩ := dpAll_getV h1 e1
  obtain ⟨d2, g2, dd2⟩ := dpAll_getV h2 e2
  refine ⟨.tuple [d1, d2], ?_, fun G' s1 s2 => ⟨_, Nxt.new s2 hT, ?_⟩⟩
  · unfold zipP
    rw [List.getElem?_map, (List.getElem?_zip_eq_some (z := (d1, d2))).mpr ⟨g1, g2⟩]
    rfl
  · have n := Nxt.new (o := .tup [x1, x2]) s2 hT
    exact .tup upd_same (.cons (dp_mono (s1.trans n.g) dd1) (.cons (dp_mono (s1.trans n.g) dd2) .nil))
theorem di_zipT {elts : List Expr} {kk : Nat} {tpos : Pos} {ds es : List PyData} (hm : X.mg "zip" = none) (h : De X a ρ (.tuple ds)) (h' : De X b ρ (.tuple es)) (hg : Gl X "zip" := by rfl) (hs : starEach [a, b] X.env = (false, eval a X.env) :: starEach [b] X.env := by rfl) (hs2 : starEach [b] X.env = (false, eval b X.env) :: starEach [] X.env := by rfl) (hpl : (backTo pos (starEach [b] X.env)).any (·.1) = false := by rfl) :
    Di X (.Tuple elts kk tpos) (.Call (.Name "zip" p) [a, b] [] pos) ρ (· = zipP ds es) := by
  refine pi_wk (RZ.pi_zipA hg hm (das_cons h (das_cons h' das_nil hs2) hs) hs hpl) ?_
  rintro σ H R ⟨G, s, en, q⟩
  refine ⟨G, s, en, fun xs ds' G1 H1 n1 p1 d1 => ?_⟩
  subst p1
  obtain ⟨v, w, rfl, dv, dw⟩ := dp2 d1
  obtain ⟨t, ys, rfl, h1, h2⟩ := dp_tup_inv dv
  obtain ⟨u, zs, rfl, h3, h4⟩ := dp_tup_inv dw
  refine ⟨t, u, ys, zs, rfl, .inr ⟨same_t n1.s h1, same_t n1.s h3, q _ _ G1 H1 n1 rfl (isIt_zip h2 h4 ?_)⟩⟩
  refine ⟨fun i H2 hi s2 => ?_, fun H2 s2 => ⟨ys, zs, same_t s2 h1, same_t s2 h3, by omega⟩, fun i H2 v H' _ s2 y => ?_⟩
  · have l1 : i < ys.length := by omega
    have l2 : i < zs.length := by omega
    exact ⟨ys, zs, ys[i], zs[i], same_t s2 h1, same_t s2 h3, by simp [l1], by simp [l2]⟩
  · obtain ⟨T, x, z, g1, g2, g3, g4, g5⟩ := y
    exact ⟨T, x, z, g1, g2, g3, g4 ys (same_t s2 h1), g5 zs (same_t s2 h3)⟩
theorem di_zipL {elts : List Expr} {kk : Nat} {tpos : Pos} {ds es : List PyData} (hm : X.mg "zip" = none) (h : De X a ρ (.list ds)) (h' : De X b ρ (.list es)) (hg : Gl X "zip" := by rfl) (hs : starEach [a, b] X.env = (false, eval a X.env) :: starEach [b] X.env := by rfl) (hs2 : starEach [b] X.env = (false, eval b X.env) :: starEach [] X.env := by rfl) (hpl : (backTo pos (starEach [b] X.env)).any (·.1) = false := by rfl) :
    Di X (.Tuple elts kk tpos) (.Call (.Name "zip" p) [a, b] [] pos) ρ (· = zipP ds es) := by
  refine pi_wk (pi_zip hg hm (das_cons h (das_cons h' das_nil hs2) hs) hs hpl) ?_
  rintro σ H R ⟨G, s, en, q⟩
  refine ⟨G, s, en, fun xs ds' G1 H1 n1 p1 d1 => ?_⟩
  subst p1
  obtain ⟨v, w, rfl, dv, dw⟩ := dp2 d1
  obtain ⟨t, ys, rfl, h1, h2⟩ := dp_lst_inv dv
  obtain ⟨u, zs, rfl, h3, h4⟩ := dp_lst_inv dw
  refine ⟨t, u, ys, zs, rfl, n1.s.seq h1, n1.s.seq h3, q _ _ G1 H1 n1 rfl (isIt_zip h2 h4 ?_)⟩
  exact (walk_zip rfl).mono (fun H s => ⟨s.seq h1, s.seq h3⟩) fun _ _ _ _ _ _ y => y
end

/-! ### comprehensions -/
theorem wipe_set : ∀ {vs : List Nat} {σ : L2.St} {i : Nat} {x : Option V}, wipe (σ.set i x) vs = if i ∈ vs then wipe σ vs else (wipe σ vs).set i x
  | [], σ, i, x => by simp [wipe]
  | v :: vs, σ, i, x => by
    show (wipe (σ.set i x) vs).set v none = if i ∈ v :: vs then (wipe σ vs).set v none else ((wipe σ vs).set v none).set i x
    rw [wipe_set]
    by_cases h1 : i ∈ vs
    · rw [if_pos h1, if_pos (List.mem_cons_of_mem _ h1)]
    · rw [if_neg h1]
      by_cases h2 : i = v
      · subst h2
        rw [if_pos List.mem_cons_self, List.set_set]
      · rw [if_neg (by simp [h1, h2]), List.set_comm _ _ h2]
theorem wipe_set_mem {vs : List Nat} {σ : L2.St} {i : Nat} {x : Option V} (h : i ∈ vs) : wipe (σ.set i x) vs = wipe σ vs := by rw [wipe_set, if_pos h]
theorem wipe_wipe {σ : L2.St} {vs : List Nat} : ∀ {us : List Nat}, (∀ u ∈ us, u ∈ vs) → wipe (wipe σ us) vs = wipe σ vs
  | [], _ => rfl
  | u :: us, h => by
    show wipe ((wipe σ us).set u none) vs = _
    rw [wipe_set_mem (h u List.mem_cons_self), wipe_wipe fun w hw => h w (List.mem_cons_of_mem _ hw)]
/-- a target that stores data -/
def TgD (K : PySem.W.Frag) (g : TG) (ρ0 : DEnv) (vs : List Nat) (d : PyData) (ρ1 : DEnv) : Prop := ∀ v τ G H Q, Same G H → EnvD K G τ ρ0 → Dp K G v d → (∀ τ2, EnvD K G τ2 ρ1 → wipe τ2 vs = wipe τ vs → Q τ2 H) → g v τ H Q
theorem tg_name {K : PySem.W.Frag} {ρ0 : DEnv} {vs : List Nat} {d : PyData} {i : Nat} (hi : i ∈ vs) : TgD K (gName i) ρ0 vs d (ρ0.set i (some d)) := fun v τ G H Q s en dv q =>
  q _ (en.set dv) (wipe_set_mem hi)
theorem tg_pair {K : PySem.W.Frag} {ρ0 : DEnv} {vs : List Nat} {d e : PyData} {i j : Nat} (hi : i ∈ vs) (hj : j ∈ vs) : TgD K (gTup K 2 (gCons (gName i) (gCons (gName j) gNil))) ρ0 vs (.tuple [d, e]) ((ρ0.set i (some d)).set j (some e)) := fun v τ G H Q s en dv q => by
  obtain ⟨a, xs, rfl, h1, h2⟩ := dp_tup_inv dv
  obtain ⟨x, y, rfl, dx, dy⟩ := dp2 h2
  refine ⟨a, [x, y], rfl, same_t s h1, rfl, x, [y], rfl, y, [], rfl, rfl, q _ ((en.set dx).set dy) ?_⟩
  rw [wipe_set_mem hj, wipe_set_mem hi]
theorem tg_triple {K : PySem.W.Frag} {ρ0 : DEnv} {vs : List Nat} {d e f : PyData} {i j k : Nat} (hi : i ∈ vs) (hj : j ∈ vs) (hk : k ∈ vs) : TgD K (gTup K 3 (gCons (gName i) (gCons (gName j) (gCons (gName k) gNil)))) ρ0 vs (.tuple [d, e, f]) (((ρ0.set i (some d)).set j (some e)).set k (some f)) := fun v τ G H Q s en dv q => by
  obtain ⟨a, xs, rfl, h1, h2⟩ := dp_tup_inv dv
  cases h2 with
  | cons dx h2 =>
    rename_i x xs
    obtain ⟨y, z, rfl, dy, dz⟩ := dp2 h2
    refine ⟨a, [x, y, z], rfl, same_t s h1, rfl, x, [y, z], rfl, y, [z], rfl, z, [], rfl, rfl, q _ (((en.set dx).set dy).set dz) ?_⟩
    rw [wipe_set_mem hk, wipe_set_mem hj, wipe_set_mem hi]

theorem filter_map_take {α β : Type} {L : List α} {p : α → Bool} {f : α → β} {i : Nat} {a : α} (h : L[i]? = some a) : ((L.take (i + 1)).filter p).map f = ((L.take i).filter p).map f ++ (if p a = true then [f a] else []) := by
  rw [List.take_add_one, h, List.filter_append, List.map_append]
  congr 1
  by_cases hp : p a = true
  · simp [hp]
  · simp [hp]
/-- the reading of a list comprehension, over data -/
theorem t_lc {K : PySem.W.Frag} {ρ : DEnv} {α : Type} {P : List α → Prop} {A : α → Prop} {enc f : α → PyData} {p : α → Bool} {ρof : α → DEnv} {g : TG} {vs : List Nat} {R : PyData → Prop}
    (hg : ∀ a, A a → TgD K g (wipeD ρ vs) vs (enc a) (ρof a)) (hA : ∀ L, P L → ∀ a ∈ L, A a) (hz : ∀ L, P L → L.length < sizeLine) (hR : ∀ L, P L → R (.list ((L.filter p).map f))) :
    ∀ σ H Q, tD K ρ R σ H Q → tLc (tI K ρ (fun ds => ∃ L, P L ∧ ds = L.map enc)) g (fun σ H Q => ∃ a, A a ∧ tDt K (ρof a) (p a) σ H Q) (fun σ H Q => ∃ a, (A a ∧ p a = true) ∧ tD K (ρof a) (· = f a) σ H Q) vs σ H Q := by
  rintro σ H Q ⟨G, s, en, q⟩
  refine ⟨G, s, en, fun J ds G1 H1 n1 pd it D hD => ?_⟩
  obtain ⟨L, pL, rfl⟩ := pd
  have hlen : (L.map enc).length = L.length := List.length_map ..
  unfold IsIt at it
  rw [hlen] at it
  refine lc_it (g := g) (tt := fun σ H Q => ∃ a, A a ∧ tDt K (ρof a) (p a) σ H Q) (te := fun σ H Q => ∃ a, (A a ∧ p a = true) ∧ tD K (ρof a) (· = f a) σ H Q) (vs := vs) (σ := σ) (H1 := H1) (D := D) (Qd := Q (.ref D)) it (fun i H2 => ∃ G2 acc, Nxt G1 H1 G2 H2 ∧ H2 D = some (.lst acc) ∧ G2 D = none ∧ DpAll K G2 acc (((L.take i).filter p).map f)) ?_ (fun i H2 _ ⟨G2, acc, n2, _⟩ => n2.g.trans n2.s) (fun i x H2 H3 hi ⟨G2, acc, n2, hacc, hGD, hdp⟩ y => ?_) (fun H2 ⟨G2, acc, n2, hacc, hGD, hdp⟩ => ?_)
  · exact ⟨G1, [], Nxt.new0 n1.s hD, upd_same, n1.s.free hD, .nil⟩
  · obtain ⟨d, hd, hy⟩ := y
    rw [List.getElem?_map] at hd
    have hLi : L[i]? = some L[i] := List.getElem?_eq_getElem hi
    rw [hLi] at hd
    have ed : enc L[i] = d := Option.some.inj hd
    subst ed
    have ha : A L[i] := hA L pL _ (List.getElem_mem hi)
    obtain ⟨G3, n3, dx⟩ := hy G2 n2.g n2.s
    have n13 := n2.trans n3
    have en3 : EnvD K G3 (wipe σ vs) (wipeD ρ vs) := (en.mono (n1.g.trans n13.g)).wipe vs
    refine hg _ ha x (wipe σ vs) G3 H3 _ n3.s en3 dx fun τ2 en2 hw => ⟨hw.trans (wipe_wipe fun _ h => h), L[i], ha, G3, n3.s, en2, fun G4 H4 n4 => ?_⟩
    have hD4 : H4 D = some (.lst acc) := n4.h _ _ (n3.h _ _ hacc)
    have hG3 : G3 D = none := n3.f D hGD (by rw [hacc]; trivial)
    have hG4 : G4 D = none := n4.f D hG3 (by rw [n3.h _ _ hacc]; trivial)
    dsimp only
    by_cases hp : p L[i] = true
    · rw [if_pos hp]
      refine ⟨L[i], ⟨ha, hp⟩, G4, n4.s, en2.mono n4.g, fun y dy G5 H5 n5 p5 d5 => ?_⟩
      subst p5
      have hD5 : H5 D = some (.lst acc) := n5.h _ _ hD4
      have hG5 : G5 D = none := n5.f D hG4 (by rw [hD4]; trivial)
      have n15 := (n13.trans n4).trans n5
      have hl : acc.length ≤ L.length := by
        rw [dpAll_len hdp, List.length_map]
        exact Nat.le_trans (List.length_filter_le ..) (by rw [List.length_take]; omega)
      refine ⟨acc, hD5, Nat.lt_of_le_of_lt hl (hz L pL), G5, acc ++ [y], ⟨?_, n15.g, ?_, n15.f⟩, upd_same, hG5, ?_⟩
      · intro b o e
        rw [upd_ne (ne_of_none e hD)]
        exact n15.h b o e
      · exact same_upd2 n5.s hG5
      · rw [filter_map_take hLi, if_pos hp]
        exact dpAll_app (dpAll_mono ((n3.trans n4).trans n5).g hdp) (dpAll_one d5)
    · rw [if_neg hp]
      refine ⟨G4, acc, n13.trans n4, hD4, hG4, ?_⟩
      rw [filter_map_take hLi, if_neg hp, List.append_nil]
      exact dpAll_mono (n3.trans n4).g hdp
  · rw [List.take_length] at hdp
    have n3 := Nxt.take n2.s hacc hGD hD n2
    exact q _ _ _ _ (n1.trans n3) (hR L pL) (.lst (.inl (.inl upd_same)) (dpAll_mono (same_upd hGD) hdp))

section
variable {X : Cx} {ρ : DEnv} {tg iter elt : Expr} {ifs : List Expr} {scope : Scope} {own : List (Str × Nat)} {pos : Pos} {α : Type} {P : List α → Prop} {A : α → Prop} {enc f : α → PyData} {p : α → Bool} {ρof : α → DEnv} {g : TG} {R : PyData → Prop}
/-- [elt for tg in iter if ..] -/
theorem de_lc (hc : X.calm = true) (hN : X.N.Nodup) (ok : BlkOk X.N X.env.scope scope own) (hi : Di X tg iter ρ (fun ds => ∃ L, P L ∧ ds = L.map enc))
    (hgP : ∀ (s : Shared) (H : Hp) (C : Addr) (cl : List (Str × Addr)) (fp : List Addr), PG (X.blk s H scope (compEnvC scope cl C X.env) fp) tg g)
    (hg : ∀ a, A a → TgD X.K g (wipeD ρ (own.map (·.2))) (own.map (·.2)) (enc a) (ρof a)) (hA : ∀ L, P L → ∀ a ∈ L, A a) (hz : ∀ L, P L → L.length < sizeLine) (hR : ∀ L, P L → R (.list ((L.filter p).map f)))
    (ht : ∀ (s : Shared) (H : Hp) (C : Addr) (cl : List (Str × Addr)) (fp : List Addr) (a : α), A a → PTs (X.blk s H scope (compEnvC scope cl C X.env) fp) ifs (tDt X.K (ρof a) (p a)))
    (he : ∀ (s : Shared) (H : Hp) (C : Addr) (cl : List (Str × Addr)) (fp : List Addr) (a : α), A a → p a = true → De (X.blk s H scope (compEnvC scope cl C X.env) fp) elt (ρof a) (f a))
    (hs : ∀ x, foldedSetIterable iter X.env x = pure x := by intro _; rfl) : DeR X (.ListComp elt [⟨tg, iter, ifs, 0⟩] scope pos) ρ R :=
  pe_wk (pe_lc hc hN hi ok hgP (fun s H C cl fp => pts_ex fun a ha => ht s H C cl fp a ha) (fun s H C cl fp => pe_ex (A := fun a => A a ∧ p a = true) fun a ha => he s H C cl fp a ha.1 ha.2) hs) (t_lc hg hA hz hR)
/-- y = [..] on one line -/
theorem ps_lc {i : Nat} {y : Str} {py spos : Pos} (hc : X.calm = true) (hN : X.N.Nodup) (hy : X.N[i]? = some y) (hyl : X.env.scope.names.lookup y = some .local) (hsw : swapsWith (.ListComp elt [⟨tg, iter, ifs, 0⟩] scope pos) (some (.Name y py)) spos.line X.env = pure true) (ok : BlkOk X.N X.env.scope scope own) (hi : Di X tg iter ρ (fun ds => ∃ L, P L ∧ ds = L.map enc))
    (hgP : ∀ (s : Shared) (H : Hp) (C : Addr) (cl : List (Str × Addr)) (fp : List Addr), PG (X.blk s H scope (compEnvC scope cl C X.env) fp) tg g)
    (hg : ∀ a, A a → TgD X.K g (wipeD ρ (own.map (·.2))) (own.map (·.2)) (enc a) (ρof a)) (hA : ∀ L, P L → ∀ a ∈ L, A a) (hz : ∀ L, P L → L.length < sizeLine) (hR : ∀ L, P L → R (.list ((L.filter p).map f)))
    (ht : ∀ (s : Shared) (H : Hp) (C : Addr) (cl : List (Str × Addr)) (fp : List Addr) (a : α), A a → PTs (X.blk s H scope (compEnvC scope cl C X.env) fp) ifs (tDt X.K (ρof a) (p a)))
    (he : ∀ (s : Shared) (H : Hp) (C : Addr) (cl : List (Str × Addr)) (fp : List Addr) (a : α), A a → p a = true → De (X.blk s H scope (compEnvC scope cl C X.env) fp) elt (ρof a) (f a))
    (hs : ∀ x, foldedSetIterable iter X.env x = pure x := by intro _; rfl) : PS X (.Assign [.Name y py] (.ListComp elt [⟨tg, iter, ifs, 0⟩] scope pos) spos) (tAsg (tD X.K ρ R) (gName i)) :=
  ps_wk (ps_setLc hc hN hy hyl hsw hi ok hgP (fun s H C cl fp => pts_ex fun a ha => ht s H C cl fp a ha) (fun s H C cl fp => pe_ex (A := fun a => A a ∧ p a = true) fun a ha => he s H C cl fp a ha.1 ha.2) hs) fun D σ H h => t_lc hg hA hz hR σ H _ h
theorem pts_nilD : PTs X [] (tDt X.K ρ true) := ⟨fun pins s σ H Q I ⟨G, sG, en, q⟩ => pts_nil.run pins s σ H Q I (q G H (Nxt.refl sG))⟩
end

/-! ### blocks -/
section
variable {X : Cx} {ρ : DEnv} {e c : Expr} {rest body : List Stmt} {P R : PyData → Prop} {pos : Pos} {st : Stmt}
theorem db_ret (h : DeR X e ρ R) : Db X [.Return (some e) pos] ρ R := pss_wk (pss_one (ps_ret h)) fun D σ H ⟨G, s, en, q⟩ => ⟨G, s, en, fun v d G' H' n pd dp => q v d G' H' n pd dp⟩
theorem db_retC (h : DeR X e ρ R) : Db X (.Return (some e) pos :: rest) ρ R := pss_wk (pss_cons (ps_ret h) pss_never) fun D σ H ⟨G, s, en, q⟩ => ⟨G, s, en, fun v d G' H' n pd dp => q v d G' H' n pd dp⟩
theorem db_end (hR : R .none) : Db X [] ρ R → Db X [] ρ R := id
theorem db_asg {i : Nat} (h : PS X st (tAsg (tD X.K ρ P) (gName i))) (hr : ∀ d, P d → Db X rest (ρ.set i (some d)) R) : Db X (st :: rest) ρ R := by
  refine pss_wk (pss_cons h (pss_ex hr)) ?_
  rintro D σ H ⟨G, s, en, q⟩
  refine ⟨G, s, en, fun v d G1 H1 n1 pd dp => ?_⟩
  exact ⟨d, pd, G1, n1.s, (en.mono n1.g).set dp, fun v' d' G' H' n pd' dp' => q v' d' G' H' (n1.trans n) pd' dp'⟩
theorem db_set (i : Nat) {x : Str} {px : Pos} (hN : X.N.Nodup) (h : DeR X e ρ P) (hr : ∀ d, P d → Db X rest (ρ.set i (some d)) R) (hi : X.N[i]? = some x := by rfl) (hx : Loc X.env.scope x := by first | exact Or.inl rfl | exact Or.inr rfl) (hf : X.fn x = true ∨ X.env.scope.names.lookup x = some .local := by first | exact .inl rfl | exact .inr rfl)
    (hs : swapsWithSole [.Name x px] e pos.line X.env = pure false := by rfl) (hw : swappedStores [.Name x px] e X.env = pure none := by rfl) (h1 : (assignEach [.Name x px] X.env).map (·.2) = [assign (.Name x px) X.env] := by rfl) : Db X (.Assign [.Name x px] e pos :: rest) ρ R :=
  db_asg (ps_asg h (pg_name hN hi hx hf) hs hw h1) hr
theorem db_setE (i : Nat) {x : Str} {px : Pos} {d : PyData} (hN : X.N.Nodup) (h : De X e ρ d) (hr : Db X rest (ρ.set i (some d)) R) (hi : X.N[i]? = some x := by rfl) (hx : Loc X.env.scope x := by first | exact Or.inl rfl | exact Or.inr rfl) (hf : X.fn x = true ∨ X.env.scope.names.lookup x = some .local := by first | exact .inl rfl | exact .inr rfl)
    (hs : swapsWithSole [.Name x px] e pos.line X.env = pure false := by rfl) (hw : swappedStores [.Name x px] e X.env = pure none := by rfl) (h1 : (assignEach [.Name x px] X.env).map (·.2) = [assign (.Name x px) X.env] := by rfl) : Db X (.Assign [.Name x px] e pos :: rest) ρ R :=
  db_set i hN h (fun d' e' => by subst e'; exact hr) hi hx hf hs hw h1
theorem db_expr (h : DeR X e ρ P) (hr : Db X rest ρ R) (hs : swapsWith e none pos.line X.env = pure false := by rfl) : Db X (.Expr e pos :: rest) ρ R := by
  refine pss_wk (pss_cons (ps_expr h hs) hr) ?_
  rintro D σ H ⟨G, s, en, q⟩
  exact ⟨G, s, en, fun v d G1 H1 n1 pd dp => ⟨G1, n1.s, en.mono n1.g, fun v' d' G' H' n pd' dp' => q v' d' G' H' (n1.trans n) pd' dp'⟩⟩
theorem db_exprL (h : DeR X e ρ P) (hR : R .none) (hs : swapsWith e none pos.line X.env = pure false := by rfl) : PSs X [.Expr e pos] (fun D σ H => ∃ G, Same G H ∧ EnvD X.K G σ ρ ∧ ∀ G' H', Nxt G H G' H' → D.nx σ H') := by
  refine pss_wk (pss_one (ps_expr h hs)) ?_
  rintro D σ H ⟨G, s, en, q⟩
  exact ⟨G, s, en, fun v d G1 H1 n1 pd dp => q G1 H1 n1⟩
/-- if c: a block that returns; then the rest -/
theorem db_ifT (hc : Dt X c ρ true) (hb : Db X body ρ R) : Db X (.If c body [] pos :: rest) ρ R := by
  refine pss_wk (pss_cons (ps_if hc hb pss_nil) pss_never) ?_
  rintro D σ H ⟨G, s, en, q⟩
  refine ⟨G, s, en, fun G1 H1 n1 => ?_⟩
  refine iteT ?_
  exact ⟨G1, n1.s, en.mono n1.g, fun v' d' G' H' n pd' dp' => q v' d' G' H' (n1.trans n) pd' dp'⟩
theorem db_ifF (hc : Dt X c ρ false) (hr : Db X rest ρ R) : Db X (.If c body [] pos :: rest) ρ R := by
  refine pss_wk (pss_cons (ps_if hc pss_never pss_nil) hr) ?_
  rintro D σ H ⟨G, s, en, q⟩
  refine ⟨G, s, en, fun G1 H1 n1 => ?_⟩
  refine iteF ?_
  exact ⟨G1, n1.s, en.mono n1.g, fun v' d' G' H' n pd' dp' => q v' d' G' H' (n1.trans n) pd' dp'⟩
theorem db_if {b : Bool} (hc : Dt X c ρ b) (hb : b = true → Db X body ρ R) (hr : b = false → Db X rest ρ R) : Db X (.If c body [] pos :: rest) ρ R := by
  cases b with
  | true => exact db_ifT hc (hb rfl)
  | false => exact db_ifF hc (hr rfl)
end

/-! ### defs -/
def startD (N : List Str) (ds : List PyData) : DEnv := ds.map some ++ List.replicate (N.length - ds.length) none
theorem dpAll_env {K : PySem.W.Frag} {G : Hp} {N : List Str} {vs : List V} {ds : List PyData} (h : DpAll K G vs ds) : EnvD K G (L2.start N vs) (startD N ds) := by
  have hl := dpAll_len h
  refine ⟨by simp [L2.start, startD, hl], fun i d e => ?_⟩
  unfold startD at e
  by_cases hi : i < ds.length
  · rw [List.getElem?_append_left (by simpa using hi), List.getElem?_map] at e
    cases q : ds[i]? with
    | none => rw [q] at e; cases e
    | some d' =>
      rw [q] at e
      have e' : d' = d := Option.some.inj (Option.some.inj e)
      subst e'
      obtain ⟨v, h1, h2⟩ := dpAll_get h q
      refine ⟨v, ?_, h2⟩
      unfold L2.start
      rw [List.getElem?_append_left (by rw [List.length_map, hl]; exact hi), List.getElem?_map, h1]
      rfl
  · rw [List.getElem?_append_right (by simpa using hi), List.getElem?_replicate] at e
    split at e
    · cases e
    · cases e
section
variable {P : Program} {w : World} {K : PySem.W.Frag} {mg : Str → Option Value} {base : Heap}
abbrev cxD (P : Program) (w : World) (K : PySem.W.Frag) (mg : Str → Option Value) (base : Heap) (N : List Str) (qual : Str) (st : Stmt) (f : Addr) (cdv : Value) (A : Around) (outer : List Env) (s : Shared) (H : Hp) (E : XK) : Cx := (cxOf CX0 P w K mg base N qual (defScope st) f cdv A outer s H E).nox
theorem fun_d {x qual : Str} {st : Stmt} {f : Addr} {fd : FuncData} {N ps : List Str} {k : Nat} {fD : List PyData → (PyData → Prop) → Prop} (F : Fun K x qual st f fd) (S : FnScope N ps (defScope st)) (len : ∀ ds R, fD ds R → ds.length = ps.length)
    (hb : ∀ (cdv : Value) (A : Around) (outer : List Env) (s : Shared) (H : Hp) (E : XK), Room k (A.deeper (envOfC qual (defScope st) s.heap.objs.size f cdv)) → ∀ ds R, fD ds R → Db (cxD P w K mg base N qual st f cdv A outer s H E) (defBody st) (startD N ds) R) :
    FnOk P w K mg base CX0 (k + 1) f fd ps (spD K fD) := by
  refine F.ok S (fun vs H Q E h => ?_) (fun cdv A outer s H vs Q E hr h => ?_)
  · obtain ⟨G, ds, R, _, dp, hf, _⟩ := h
    rw [dpAll_len dp, len ds R hf]
  · obtain ⟨G, ds, R, sG, dp, hf, q⟩ := h
    exact ⟨_, hb cdv A outer s H E hr ds R hf, G, sG, dpAll_env dp, fun v d G' H' n pd dpv => q v d G' H' n pd dpv⟩
/-- a def whose last statement falls off the end: it returns None -/
abbrev DbN (X : Cx) (sts : List Stmt) (ρ : DEnv) : Prop := PSs X sts (fun D σ H => ∃ G, Same G H ∧ EnvD X.K G σ ρ ∧ (∀ G' H' σ', Nxt G H G' H' → D.nx σ' H'))
theorem fun_n {x qual : Str} {st : Stmt} {f : Addr} {fd : FuncData} {N ps : List Str} {k : Nat} {fD : List PyData → (PyData → Prop) → Prop} (F : Fun K x qual st f fd) (S : FnScope N ps (defScope st)) (len : ∀ ds R, fD ds R → ds.length = ps.length) (hR : ∀ ds R, fD ds R → R .none)
    (hb : ∀ (cdv : Value) (A : Around) (outer : List Env) (s : Shared) (H : Hp) (E : XK), Room k (A.deeper (envOfC qual (defScope st) s.heap.objs.size f cdv)) → ∀ ds R, fD ds R → DbN (cxD P w K mg base N qual st f cdv A outer s H E) (defBody st) (startD N ds)) :
    FnOk P w K mg base CX0 (k + 1) f fd ps (spD K fD) := by
  refine F.ok S (fun vs H Q E h => ?_) (fun cdv A outer s H vs Q E hr h => ?_)
  · obtain ⟨G, ds, R, _, dp, hf, _⟩ := h
    rw [dpAll_len dp, len ds R hf]
  · obtain ⟨G, ds, R, sG, dp, hf, q⟩ := h
    exact ⟨_, hb cdv A outer s H E hr ds R hf, G, sG, dpAll_env dp, fun G' H' σ' n => q .non .none G' H' n (hR ds R hf) .non⟩
end
section
variable {X : Cx} {ρ : DEnv} {e c : Expr} {rest body : List Stmt} {P : PyData → Prop} {pos : Pos} {st : Stmt}
theorem dn_nil : DbN X [] ρ := pss_wk pss_nil fun D σ H ⟨G, s, en, q⟩ => q G H σ (Nxt.refl s)
theorem dn_expr (h : DeR X e ρ P) (hr : DbN X rest ρ) (hs : swapsWith e none pos.line X.env = pure false := by rfl) : DbN X (.Expr e pos :: rest) ρ := by
  refine pss_wk (pss_cons (ps_expr h hs) hr) ?_
  rintro D σ H ⟨G, s, en, q⟩
  exact ⟨G, s, en, fun v d G1 H1 n1 pd dp => ⟨G1, n1.s, en.mono n1.g, fun G' H' σ' n => q G' H' σ' (n1.trans n)⟩⟩
theorem dn_if (hc : Dt X c ρ false) (hr : DbN X rest ρ) : DbN X (.If c body [] pos :: rest) ρ := by
  refine pss_wk (pss_cons (ps_if hc pss_never pss_nil) hr) ?_
  rintro D σ H ⟨G, s, en, q⟩
  refine ⟨G, s, en, fun G1 H1 n1 => ?_⟩
  refine iteF ?_
  exact ⟨G1, n1.s, en.mono n1.g, fun G' H' σ' n => q G' H' σ' (n1.trans n)⟩
end
end TW
/-! TWS: the text by places, the scopes, what a def calls. -/
namespace TW
open PySem PySem.Spec PyProof.Rows L2
def topS (i : Nat) : Stmt := PySem.Challenge.pw_terraces_k80_worths_across.main.body.getD i (.Pass ⟨0, 0, 0, 0⟩)
abbrev s_is_int : Stmt := topS 12
abbrev N_is_int : List Str := ["value"]
abbrev p_is_int : List Str := ["value"]
theorem sc_is_int : FnScope N_is_int p_is_int (defScope s_is_int) := ⟨rfl, rfl, rfl, by decide +kernel, rfl, by decide +kernel, by decide +kernel⟩
abbrev s_is_in : Stmt := topS 13
abbrev N_is_in : List Str := ["value", "least", "most"]
abbrev p_is_in : List Str := ["value", "least", "most"]
theorem sc_is_in : FnScope N_is_in p_is_in (defScope s_is_in) := ⟨rfl, rfl, rfl, by decide +kernel, rfl, by decide +kernel, by decide +kernel⟩
abbrev s_is_pair : Stmt := topS 14
abbrev N_is_pair : List Str := ["value", "size", "field"]
abbrev p_is_pair : List Str := ["value", "size"]
theorem sc_is_pair : FnScope N_is_pair p_is_pair (defScope s_is_pair) := ⟨rfl, rfl, rfl, by decide +kernel, rfl, by decide +kernel, by decide +kernel⟩
abbrev s_has_form : Stmt := topS 15
abbrev N_has_form : List Str := ["value", "hedge", "one", "other"]
abbrev p_has_form : List Str := ["value"]
theorem sc_has_form : FnScope N_has_form p_has_form (defScope s_has_form) := ⟨rfl, rfl, rfl, by decide +kernel, rfl, by decide +kernel, by decide +kernel⟩
abbrev s_nears_of : Stmt := topS 16
abbrev N_nears_of : List Str := ["web", "found", "field", "one", "other", "told"]
abbrev p_nears_of : List Str := ["web"]
theorem sc_nears_of : FnScope N_nears_of p_nears_of (defScope s_nears_of) := ⟨rfl, rfl, rfl, by decide +kernel, rfl, by decide +kernel, by decide +kernel⟩
abbrev s_reach_of : Stmt := topS 17
abbrev N_reach_of : List Str := ["web", "first", "nears", "found", "line", "at", "field"]
abbrev p_reach_of : List Str := ["web", "first"]
theorem sc_reach_of : FnScope N_reach_of p_reach_of (defScope s_reach_of) := ⟨rfl, rfl, rfl, by decide +kernel, rfl, by decide +kernel, by decide +kernel⟩
abbrev s_odd_hedge : Stmt := topS 18
abbrev N_odd_hedge : List Str := ["web", "told", "some", "hedge"]
abbrev p_odd_hedge : List Str := ["web"]
theorem sc_odd_hedge : FnScope N_odd_hedge p_odd_hedge (defScope s_odd_hedge) := ⟨rfl, rfl, rfl, by decide +kernel, rfl, by decide +kernel, by decide +kernel⟩
abbrev s_bar_of : Stmt := topS 19
abbrev N_bar_of : List Str := ["web", "told", "field", "hedge"]
abbrev p_bar_of : List Str := ["web"]
theorem sc_bar_of : FnScope N_bar_of p_bar_of (defScope s_bar_of) := ⟨rfl, rfl, rfl, by decide +kernel, rfl, by decide +kernel, by decide +kernel⟩
abbrev s_need_web : Stmt := topS 20
abbrev N_need_web : List Str := ["value"]
abbrev p_need_web : List Str := ["value"]
theorem sc_need_web : FnScope N_need_web p_need_web (defScope s_need_web) := ⟨rfl, rfl, rfl, by decide +kernel, rfl, by decide +kernel, by decide +kernel⟩
abbrev s_breadth_of : Stmt := topS 21
abbrev N_breadth_of : List Str := ["web", "nears", "best", "last", "field"]
abbrev p_breadth_of : List Str := ["web"]
theorem sc_breadth_of : FnScope N_breadth_of p_breadth_of (defScope s_breadth_of) := ⟨rfl, rfl, rfl, by decide +kernel, rfl, by decide +kernel, by decide +kernel⟩
abbrev s_is_laying_of : Stmt := topS 24
abbrev N_is_laying_of : List Str := ["web", "value", "height", "one", "other"]
abbrev p_is_laying_of : List Str := ["web", "value"]
theorem sc_is_laying_of : FnScope N_is_laying_of p_is_laying_of (defScope s_is_laying_of) := ⟨rfl, rfl, rfl, by decide +kernel, rfl, by decide +kernel, by decide +kernel⟩
abbrev s_need_laying : Stmt := topS 25
abbrev N_need_laying : List Str := ["web", "value"]
abbrev p_need_laying : List Str := ["web", "value"]
theorem sc_need_laying : FnScope N_need_laying p_need_laying (defScope s_need_laying) := ⟨rfl, rfl, rfl, by decide +kernel, rfl, by decide +kernel, by decide +kernel⟩
abbrev s_need_one : Stmt := topS 26
abbrev N_need_one : List Str := ["web", "laying"]
abbrev p_need_one : List Str := ["web", "laying"]
theorem sc_need_one : FnScope N_need_one p_need_one (defScope s_need_one) := ⟨rfl, rfl, rfl, by decide +kernel, rfl, by decide +kernel, by decide +kernel⟩
abbrev s_need_two : Stmt := topS 27
abbrev N_need_two : List Str := ["web", "one", "other"]
abbrev p_need_two : List Str := ["web", "one", "other"]
theorem sc_need_two : FnScope N_need_two p_need_two (defScope s_need_two) := ⟨rfl, rfl, rfl, by decide +kernel, rfl, by decide +kernel, by decide +kernel⟩
abbrev s_lows_of : Stmt := topS 28
abbrev N_lows_of : List Str := ["web", "laying", "nears", "field", "near"]
abbrev p_lows_of : List Str := ["web", "laying"]
theorem sc_lows_of : FnScope N_lows_of p_lows_of (defScope s_lows_of) := ⟨rfl, rfl, rfl, by decide +kernel, rfl, by decide +kernel, by decide +kernel⟩
abbrev s_highs_of : Stmt := topS 29
abbrev N_highs_of : List Str := ["web", "laying", "nears", "field", "near"]
abbrev p_highs_of : List Str := ["web", "laying"]
theorem sc_highs_of : FnScope N_highs_of p_highs_of (defScope s_highs_of) := ⟨rfl, rfl, rfl, by decide +kernel, rfl, by decide +kernel, by decide +kernel⟩
abbrev s_changed : Stmt := topS 30
abbrev N_changed : List Str := ["laying", "field", "by"]
abbrev p_changed : List Str := ["laying", "field", "by"]
theorem sc_changed : FnScope N_changed p_changed (defScope s_changed) := ⟨rfl, rfl, rfl, by decide +kernel, rfl, by decide +kernel, by decide +kernel⟩
abbrev s_moved : Stmt := topS 31
abbrev N_moved : List Str := ["web", "laying", "by", "found", "height"]
abbrev p_moved : List Str := ["web", "laying", "by"]
theorem sc_moved : FnScope N_moved p_moved (defScope s_moved) := ⟨rfl, rfl, rfl, by decide +kernel, rfl, by decide +kernel, by decide +kernel⟩
abbrev s_greater_of : Stmt := topS 34
abbrev N_greater_of : List Str := ["one", "other", "height", "more"]
abbrev p_greater_of : List Str := ["one", "other"]
theorem sc_greater_of : FnScope N_greater_of p_greater_of (defScope s_greater_of) := ⟨rfl, rfl, rfl, by decide +kernel, rfl, by decide +kernel, by decide +kernel⟩
abbrev s_lesser_of : Stmt := topS 35
abbrev N_lesser_of : List Str := ["one", "other", "height", "more"]
abbrev p_lesser_of : List Str := ["one", "other"]
theorem sc_lesser_of : FnScope N_lesser_of p_lesser_of (defScope s_lesser_of) := ⟨rfl, rfl, rfl, by decide +kernel, rfl, by decide +kernel, by decide +kernel⟩
abbrev s_greater : Stmt := topS 36
abbrev N_greater : List Str := ["web", "one", "other"]
abbrev p_greater : List Str := ["web", "one", "other"]
theorem sc_greater : FnScope N_greater p_greater (defScope s_greater) := ⟨rfl, rfl, rfl, by decide +kernel, rfl, by decide +kernel, by decide +kernel⟩
abbrev s_lesser : Stmt := topS 37
abbrev N_lesser : List Str := ["web", "one", "other"]
abbrev p_lesser : List Str := ["web", "one", "other"]
theorem sc_lesser : FnScope N_lesser p_lesser (defScope s_lesser) := ⟨rfl, rfl, rfl, by decide +kernel, rfl, by decide +kernel, by decide +kernel⟩
abbrev s_is_above : Stmt := topS 38
abbrev N_is_above : List Str := ["web", "one", "other", "height", "more"]
abbrev p_is_above : List Str := ["web", "one", "other"]
theorem sc_is_above : FnScope N_is_above p_is_above (defScope s_is_above) := ⟨rfl, rfl, rfl, by decide +kernel, rfl, by decide +kernel, by decide +kernel⟩
abbrev s_need_bounds : Stmt := topS 40
abbrev N_need_bounds : List Str := ["web", "floor", "roof", "low", "high"]
abbrev p_need_bounds : List Str := ["web", "floor", "roof"]
theorem sc_need_bounds : FnScope N_need_bounds p_need_bounds (defScope s_need_bounds) := ⟨rfl, rfl, rfl, by decide +kernel, rfl, by decide +kernel, by decide +kernel⟩
abbrev s_lies_between : Stmt := topS 41
abbrev N_lies_between : List Str := ["floor", "roof", "laying", "low", "high", "height"]
abbrev p_lies_between : List Str := ["floor", "roof", "laying"]
theorem sc_lies_between : FnScope N_lies_between p_lies_between (defScope s_lies_between) := ⟨rfl, rfl, rfl, by decide +kernel, rfl, by decide +kernel, by decide +kernel⟩
abbrev s_open_deeds : Stmt := topS 42
abbrev N_open_deeds : List Str := ["web", "floor", "roof", "laying", "found", "field"]
abbrev p_open_deeds : List Str := ["web", "floor", "roof", "laying"]
theorem sc_open_deeds : FnScope N_open_deeds p_open_deeds (defScope s_open_deeds) := ⟨rfl, rfl, rfl, by decide +kernel, rfl, by decide +kernel, by decide +kernel⟩
abbrev s_layings_between : Stmt := topS 43
abbrev N_layings_between : List Str := ["web", "floor", "roof", "most", "found", "rim", "here", "field", "by", "there"]
abbrev p_layings_between : List Str := ["web", "floor", "roof", "most"]
theorem sc_layings_between : FnScope N_layings_between p_layings_between (defScope s_layings_between) := ⟨rfl, rfl, rfl, by decide +kernel, rfl, by decide +kernel, by decide +kernel⟩
abbrev s_need_worths : Stmt := topS 46
abbrev N_need_worths : List Str := ["web", "value", "worth"]
abbrev p_need_worths : List Str := ["web", "value"]
theorem sc_need_worths : FnScope N_need_worths p_need_worths (defScope s_need_worths) := ⟨rfl, rfl, rfl, by decide +kernel, rfl, by decide +kernel, by decide +kernel⟩
abbrev s_need_all : Stmt := topS 47
abbrev N_need_all : List Str := ["web", "floor", "roof", "worths"]
abbrev p_need_all : List Str := ["web", "floor", "roof", "worths"]
theorem sc_need_all : FnScope N_need_all p_need_all (defScope s_need_all) := ⟨rfl, rfl, rfl, by decide +kernel, rfl, by decide +kernel, by decide +kernel⟩
abbrev s_worth_of : Stmt := topS 48
abbrev N_worth_of : List Str := ["laying", "worths", "height", "worth"]
abbrev p_worth_of : List Str := ["laying", "worths"]
theorem sc_worth_of : FnScope N_worth_of p_worth_of (defScope s_worth_of) := ⟨rfl, rfl, rfl, by decide +kernel, rfl, by decide +kernel, by decide +kernel⟩
abbrev s_some_of : Stmt := topS 49
abbrev N_some_of : List Str := ["web", "floor", "roof", "found"]
abbrev p_some_of : List Str := ["web", "floor", "roof"]
theorem sc_some_of : FnScope N_some_of p_some_of (defScope s_some_of) := ⟨rfl, rfl, rfl, by decide +kernel, rfl, by decide +kernel, by decide +kernel⟩
abbrev s_best_worth : Stmt := topS 50
abbrev N_best_worth : List Str := ["web", "floor", "roof", "worths", "laying"]
abbrev p_best_worth : List Str := ["web", "floor", "roof", "worths"]
theorem sc_best_worth : FnScope N_best_worth p_best_worth (defScope s_best_worth) := ⟨rfl, rfl, rfl, by decide +kernel, rfl, by decide +kernel, by decide +kernel⟩
abbrev s_lowest_best : Stmt := topS 51
abbrev N_lowest_best : List Str := ["web", "floor", "roof", "worths", "some", "best", "laying", "told", "heights"]
abbrev p_lowest_best : List Str := ["web", "floor", "roof", "worths"]
theorem sc_lowest_best : FnScope N_lowest_best p_lowest_best (defScope s_lowest_best) := ⟨rfl, rfl, rfl, by decide +kernel, rfl, by decide +kernel, by decide +kernel⟩
abbrev s_highest_best : Stmt := topS 52
abbrev N_highest_best : List Str := ["web", "floor", "roof", "worths", "some", "best", "laying", "told", "heights"]
abbrev p_highest_best : List Str := ["web", "floor", "roof", "worths"]
theorem sc_highest_best : FnScope N_highest_best p_highest_best (defScope s_highest_best) := ⟨rfl, rfl, rfl, by decide +kernel, rfl, by decide +kernel, by decide +kernel⟩
abbrev s_best_number : Stmt := topS 53
abbrev N_best_number : List Str := ["web", "floor", "roof", "worths", "told", "laying", "many"]
abbrev p_best_number : List Str := ["web", "floor", "roof", "worths"]
theorem sc_best_number : FnScope N_best_number p_best_number (defScope s_best_number) := ⟨rfl, rfl, rfl, by decide +kernel, rfl, by decide +kernel, by decide +kernel⟩
abbrev s_shows_best : Stmt := topS 54
abbrev N_shows_best : List Str := ["web", "floor", "roof", "worths", "value", "best"]
abbrev p_shows_best : List Str := ["web", "floor", "roof", "worths", "value"]
theorem sc_shows_best : FnScope N_shows_best p_shows_best (defScope s_shows_best) := ⟨rfl, rfl, rfl, by decide +kernel, rfl, by decide +kernel, by decide +kernel⟩
abbrev s_worth_tally : Stmt := topS 55
abbrev N_worth_tally : List Str := ["web", "floor", "roof", "worths", "found", "laying", "many"]
abbrev p_worth_tally : List Str := ["web", "floor", "roof", "worths"]
theorem sc_worth_tally : FnScope N_worth_tally p_worth_tally (defScope s_worth_tally) := ⟨rfl, rfl, rfl, by decide +kernel, rfl, by decide +kernel, by decide +kernel⟩
abbrev s_worth_gain : Stmt := topS 56
abbrev N_worth_gain : List Str := ["web", "floor", "roof", "worths", "laying", "best"]
abbrev p_worth_gain : List Str := ["web", "floor", "roof", "worths", "laying"]
theorem sc_worth_gain : FnScope N_worth_gain p_worth_gain (defScope s_worth_gain) := ⟨rfl, rfl, rfl, by decide +kernel, rfl, by decide +kernel, by decide +kernel⟩
abbrev s_need_narrow : Stmt := topS 59
abbrev N_need_narrow : List Str := ["web"]
abbrev p_need_narrow : List Str := ["web"]
theorem sc_need_narrow : FnScope N_need_narrow p_need_narrow (defScope s_need_narrow) := ⟨rfl, rfl, rfl, by decide +kernel, rfl, by decide +kernel, by decide +kernel⟩
abbrev s_kept_at : Stmt := topS 60
abbrev N_kept_at : List Str := ["nears", "last", "field"]
abbrev p_kept_at : List Str := ["nears", "last"]
theorem sc_kept_at : FnScope N_kept_at p_kept_at (defScope s_kept_at) := ⟨rfl, rfl, rfl, by decide +kernel, rfl, by decide +kernel, by decide +kernel⟩
abbrev s_choices_at : Stmt := topS 61
abbrev N_choices_at : List Str := ["nears", "field", "here", "low", "high", "some", "near", "told", "height"]
abbrev p_choices_at : List Str := ["nears", "field", "here", "low", "high"]
theorem sc_choices_at : FnScope N_choices_at p_choices_at (defScope s_choices_at) := ⟨rfl, rfl, rfl, by decide +kernel, rfl, by decide +kernel, by decide +kernel⟩
abbrev s_tables_of : Stmt := topS 62
abbrev N_tables_of : List Str := ["web", "low", "high", "nears", "found", "now", "ahead", "field", "keep", "later", "told", "many", "here", "height", "key", "one"]
abbrev p_tables_of : List Str := ["web", "low", "high"]
theorem sc_tables_of : FnScope N_tables_of p_tables_of (defScope s_tables_of) := ⟨rfl, rfl, rfl, by decide +kernel, rfl, by decide +kernel, by decide +kernel⟩
abbrev s_number_within : Stmt := topS 63
abbrev N_number_within : List Str := ["web", "low", "high"]
abbrev p_number_within : List Str := ["web", "low", "high"]
theorem sc_number_within : FnScope N_number_within p_number_within (defScope s_number_within) := ⟨rfl, rfl, rfl, by decide +kernel, rfl, by decide +kernel, by decide +kernel⟩
abbrev s_count_within : Stmt := topS 64
abbrev N_count_within : List Str := ["web", "floor", "roof"]
abbrev p_count_within : List Str := ["web", "floor", "roof"]
theorem sc_count_within : FnScope N_count_within p_count_within (defScope s_count_within) := ⟨rfl, rfl, rfl, by decide +kernel, rfl, by decide +kernel, by decide +kernel⟩
abbrev s_within : Stmt := topS 65
abbrev N_within : List Str := ["web", "floor", "roof", "found"]
abbrev p_within : List Str := ["web", "floor", "roof"]
theorem sc_within : FnScope N_within p_within (defScope s_within) := ⟨rfl, rfl, rfl, by decide +kernel, rfl, by decide +kernel, by decide +kernel⟩
abbrev s_law_taken : Stmt := topS 67
abbrev N_law_taken : List Str := ["_law_row", "_law_many", "_law_found", "_law_cell"]
abbrev p_law_taken : List Str := ["_law_row", "_law_many"]
theorem sc_law_taken : FnScope N_law_taken p_law_taken (defScope s_law_taken) := ⟨rfl, rfl, rfl, by decide +kernel, rfl, by decide +kernel, by decide +kernel⟩
abbrev s_law_pick : Stmt := topS 68
abbrev N_law_pick : List Str := ["_law_row", "_law_things"]
abbrev p_law_pick : List Str := ["_law_row", "_law_things"]
theorem sc_law_pick : FnScope N_law_pick p_law_pick (defScope s_law_pick) := ⟨rfl, rfl, rfl, by decide +kernel, rfl, by decide +kernel, by decide +kernel⟩
abbrev s_law_mixed : Stmt := topS 69
abbrev N_law_mixed : List Str := ["_law_row", "_law_some", "_law_left", "_law_found", "_law_step"]
abbrev p_law_mixed : List Str := ["_law_row", "_law_some"]
theorem sc_law_mixed : FnScope N_law_mixed p_law_mixed (defScope s_law_mixed) := ⟨rfl, rfl, rfl, by decide +kernel, rfl, by decide +kernel, by decide +kernel⟩
abbrev s_law_tree : Stmt := topS 70
abbrev N_law_tree : List Str := ["_law_row", "_law_size", "_law_names", "_law_found", "_law_at", "_law_one", "_law_other"]
abbrev p_law_tree : List Str := ["_law_row", "_law_size"]
theorem sc_law_tree : FnScope N_law_tree p_law_tree (defScope s_law_tree) := ⟨rfl, rfl, rfl, by decide +kernel, rfl, by decide +kernel, by decide +kernel⟩
abbrev s_law_web : Stmt := topS 71
abbrev N_law_web : List Str := ["_law_row", "_law_most", "_law_size", "_law_hedges", "_law_told", "_law_web_here", "_law_step", "_law_one", "_law_other"]
abbrev p_law_web : List Str := ["_law_row", "_law_most"]
theorem sc_law_web : FnScope N_law_web p_law_web (defScope s_law_web) := ⟨rfl, rfl, rfl, by decide +kernel, rfl, by decide +kernel, by decide +kernel⟩
abbrev s_law_nears : Stmt := topS 72
abbrev N_law_nears : List Str := ["_law_web_here", "_law_found", "_law_field", "_law_one", "_law_other", "_law_told"]
abbrev p_law_nears : List Str := ["_law_web_here"]
theorem sc_law_nears : FnScope N_law_nears p_law_nears (defScope s_law_nears) := ⟨rfl, rfl, rfl, by decide +kernel, rfl, by decide +kernel, by decide +kernel⟩
abbrev s_law_far : Stmt := topS 73
abbrev N_law_far : List Str := ["_law_web_here", "_law_first", "_law_nears_here", "_law_found", "_law_rim", "_law_many", "_law_later", "_law_here", "_law_near"]
abbrev p_law_far : List Str := ["_law_web_here", "_law_first"]
theorem sc_law_far : FnScope N_law_far p_law_far (defScope s_law_far) := ⟨rfl, rfl, rfl, by decide +kernel, rfl, by decide +kernel, by decide +kernel⟩
abbrev s_law_laying : Stmt := topS 74
abbrev N_law_laying : List Str := ["_law_row", "_law_web_here", "_law_height", "_law_told", "_law_kind", "_law_found", "_law_step", "_law_field", "_law_here", "_law_away", "_law_some", "_law_many", "_law_one", "_law_other", "_law_laying_here"]
abbrev p_law_laying : List Str := ["_law_row", "_law_web_here", "_law_height"]
theorem sc_law_laying : FnScope N_law_laying p_law_laying (defScope s_law_laying) := ⟨rfl, rfl, rfl, by decide +kernel, rfl, by decide +kernel, by decide +kernel⟩
abbrev s_law_lows : Stmt := topS 75
abbrev N_law_lows : List Str := ["_law_web_here", "_law_laying_here", "_law_nears_here", "_law_field", "_law_near"]
abbrev p_law_lows : List Str := ["_law_web_here", "_law_laying_here"]
theorem sc_law_lows : FnScope N_law_lows p_law_lows (defScope s_law_lows) := ⟨rfl, rfl, rfl, by decide +kernel, rfl, by decide +kernel, by decide +kernel⟩
abbrev s_law_highs : Stmt := topS 76
abbrev N_law_highs : List Str := ["_law_web_here", "_law_laying_here", "_law_nears_here", "_law_field", "_law_near"]
abbrev p_law_highs : List Str := ["_law_web_here", "_law_laying_here"]
theorem sc_law_highs : FnScope N_law_highs p_law_highs (defScope s_law_highs) := ⟨rfl, rfl, rfl, by decide +kernel, rfl, by decide +kernel, by decide +kernel⟩
abbrev s_law_changed : Stmt := topS 77
abbrev N_law_changed : List Str := ["_law_laying_here", "_law_field", "_law_by"]
abbrev p_law_changed : List Str := ["_law_laying_here", "_law_field", "_law_by"]
theorem sc_law_changed : FnScope N_law_changed p_law_changed (defScope s_law_changed) := ⟨rfl, rfl, rfl, by decide +kernel, rfl, by decide +kernel, by decide +kernel⟩
abbrev s_law_next : Stmt := topS 78
abbrev N_law_next : List Str := ["_law_web_here", "_law_laying_here", "_law_found", "_law_field"]
abbrev p_law_next : List Str := ["_law_web_here", "_law_laying_here"]
theorem sc_law_next : FnScope N_law_next p_law_next (defScope s_law_next) := ⟨rfl, rfl, rfl, by decide +kernel, rfl, by decide +kernel, by decide +kernel⟩
abbrev s_law : Stmt := topS 79
abbrev N_law : List Str := ["_law_script", "_law_row", "_law_web_here", "_law_one", "_law_other", "_law_floor", "_law_roof", "_law_low", "_law_high", "_law_some", "_law_size", "_law_worths", "_law_field", "_law_best", "_law_told", "_law_there", "_law_left", "_law_right", "_law_worth", "_law_many", "_law_back", "_law_here", "_law_outside"]
abbrev p_law : List Str := ["_law_script"]
theorem sc_law : FnScope N_law p_law (defScope s_law) := ⟨rfl, rfl, rfl, by decide +kernel, rfl, by decide +kernel, by decide +kernel⟩

/-- what the module's names hold that the defs read -/
structure Bl (mg : Str → Option Value) : Prop where
  b_abs : mg "abs" = none
  b_all : mg "all" = none
  b_any : mg "any" = none
  b_bool : mg "bool" = none
  b_dict : mg "dict" = none
  b_int : mg "int" = none
  b_isinstance : mg "isinstance" = none
  b_len : mg "len" = none
  b_list : mg "list" = none
  b_max : mg "max" = none
  b_min : mg "min" = none
  b_range : mg "range" = none
  b_sorted : mg "sorted" = none
  b_sum : mg "sum" = none
  b_tuple : mg "tuple" = none
  b_zip : mg "zip" = none
  c_MOST_FIELDS : ∃ t, mg "MOST_FIELDS" = some (.int 60 t)
  c_MOST_HEIGHT : ∃ t, mg "MOST_HEIGHT" = some (.int 1000000 t)
  c_MOST_LISTED : ∃ t, mg "MOST_LISTED" = some (.int 500 t)
  c_MOST_WORTH : ∃ t, mg "MOST_WORTH" = some (.int 1000000 t)
  c_MOST_BREADTH : ∃ t, mg "MOST_BREADTH" = some (.int 10 t)

/-- a def that may be called by its name -/
def Cal (P : Program) (w : World) (K : PySem.W.Frag) (mg : Str → Option Value) (base : Heap) (k : Nat) (x : Str) (ps : List Str) (sp : Sp) : Prop :=
  ∃ f fd, FnOk P w K mg base CX0 k f fd ps sp ∧ mg x = some (.ref f) ∧ PySem.W.keepIn K (.ref f) = true ∧ Binds K fd ps []
section
variable {X : Cx} {ρ : DEnv} {e a b c : Expr} {es : List Expr} {R : PyData → Prop} {pos p : Pos} {x : Str} {k j : Nat} {ps : List Str} {f : List PyData → (PyData → Prop) → Prop}
theorem de_callC {ds : List PyData} (C : Cal X.prog X.w X.K X.mg X.base k x ps (spD X.K f)) (hr : Room j X.A) (hk : k ≤ j) (ha : Das X (e :: es) ρ ds) (hf : f ds R) (hg : Gl X x := by rfl) (hdb : (x == ("__debug__" : Str)) = false := by decide) (he : starEach (e :: es) X.env = (false, eval e X.env) :: starEach es X.env := by rfl) (hpl : (backTo pos (starEach es X.env)).any (·.1) = false := by rfl) :
    DeR X (.Call (.Name x p) (e :: es) [] pos) ρ R := by
  obtain ⟨g, fd, F, hm, hkp, hb⟩ := C
  exact de_call F (hr.mono hk) hm hkp hb ha hf hg hdb he hpl
theorem de_callCR {Ps : List PyData → Prop} (C : Cal X.prog X.w X.K X.mg X.base k x ps (spD X.K f)) (hr : Room j X.A) (hk : k ≤ j) (ha : DasR X (e :: es) ρ Ps) (hf : ∀ ds, Ps ds → f ds R) (hg : Gl X x := by rfl) (hdb : (x == ("__debug__" : Str)) = false := by decide) (he : starEach (e :: es) X.env = (false, eval e X.env) :: starEach es X.env := by rfl) (hpl : (backTo pos (starEach es X.env)).any (·.1) = false := by rfl) :
    DeR X (.Call (.Name x p) (e :: es) [] pos) ρ R := by
  obtain ⟨g, fd, F, hm, hkp, hb⟩ := C
  exact de_callR F (hr.mono hk) hm hkp hb ha hf hg hdb he hpl
theorem de_globE {n : Int} (hm : ∃ t, X.mg x = some (.int n t)) (hg : Gl X x := by rfl) (hd : (x == ("__debug__" : Str)) = false := by decide) : De X (.Name x pos) ρ (.int n) := by
  obtain ⟨t, h⟩ := hm
  exact de_glob hg h hd
theorem db_imp {sts : List Stmt} {P : PyData → Prop} (h : Db X sts ρ P) (w : ∀ d, P d → R d) : Db X sts ρ R := pss_wk h fun D σ H ⟨G, s, en, q⟩ => ⟨G, s, en, fun v d G' H' n pd dp => q v d G' H' n (w d pd) dp⟩
theorem db_eq {sts : List Stmt} {d : PyData} (h : Db X sts ρ (fun x => x = d)) (w : R d) : Db X sts ρ R := db_imp h fun _ e => e ▸ w
theorem ty_int {K : PySem.W.Frag} {i : Int} : ∀ G v, Dp K G v (.int i) → TyX K G v (.type "int") := fun G v h => by cases h; exact .base (.int _)
theorem ty_tup {K : PySem.W.Frag} {ds : List PyData} : ∀ G v, Dp K G v (.tuple ds) → TyX K G v (.type "tuple") := fun G v h => by
  obtain ⟨a, xs, rfl, h1, _⟩ := dp_tup_inv h
  exact tyX_tup h1
theorem bt_int : bootBuiltins "int" = some (.type "int") := by decide +kernel
theorem bt_bool : bootBuiltins "bool" = some (.type "bool") := by decide +kernel
theorem bt_tuple : bootBuiltins "tuple" = some (.type "tuple") := by decide +kernel
end
end TW
/-! TWX: the forms one uses. -/
namespace TW
open PySem PySem.Spec PyProof.Rows L2
section
variable {X : Cx} {ρ : DEnv} {tg iter elt e a b c cond : Expr} {ifs : List Expr} {scope : Scope} {own : List (Str × Nat)} {pos p : Pos} {α : Type} {L : List α} {enc u v w f : α → PyData} {q : α → Bool} {i j k : Nat} {R : PyData → Prop} {rest body : List Stmt} {x : Bool}
theorem hu64 {X : Cx} {k : Nat} (hr : Room k X.A) : X.A.units + 64 < cLine := hr.units
theorem hu65 {X : Cx} {k : Nat} (hr : Room k X.A) : X.A.units + 65 < cLine := by have := hr.un; omega
theorem hu0 {X : Cx} {k : Nat} (hr : Room k X.A) : X.A.units < cLine := by have := hr.un; omega
section
variable {P Q : PyData → Prop} {op : CmpOp} {r : R2}
theorem dt_cmpR (ho : OpR X (compareOp op) r) (hr : RD2 X.K r P Q (fun d => d = .bool x)) (ha : DeR X a ρ P) (hb : DeR X b ρ Q) (hm : behindInMarks op b = false) : Dt X (.Compare a [op] [b] pos) ρ x :=
  pt_wk (pt_cmpR ho ha hb hm) fun σ H K' ⟨G, s, en, q⟩ => t_op hr σ H _ ⟨G, s, en, fun v d G' H' n pd dp => by subst pd; cases dp; exact ⟨x, rfl, q G' H' n⟩⟩
end
theorem dt_lt {i j : Int} (ha : De X a ρ (.int i)) (hb : De X b ρ (.int j)) : Dt X (.Compare a [.Lt] [b] pos) ρ (decide (i < j)) := dt_cmpR op_lt rd_B0 ha hb (nomark _)
theorem dt_le {i j : Int} (ha : De X a ρ (.int i)) (hb : De X b ρ (.int j)) : Dt X (.Compare a [.LtE] [b] pos) ρ (decide (i ≤ j)) := dt_cmpR op_le rd_B0 ha hb (nomark _)
theorem dt_gt {i j : Int} (ha : De X a ρ (.int i)) (hb : De X b ρ (.int j)) : Dt X (.Compare a [.Gt] [b] pos) ρ (decide (j < i)) := dt_cmpR op_gt rd_B0 ha hb (nomark _)
theorem dt_ge {i j : Int} (ha : De X a ρ (.int i)) (hb : De X b ρ (.int j)) : Dt X (.Compare a [.GtE] [b] pos) ρ (decide (j ≤ i)) := dt_cmpR op_ge rd_B0 ha hb (nomark _)
theorem dt_eqI {i j : Int} (ha : De X a ρ (.int i)) (hb : De X b ρ (.int j)) : Dt X (.Compare a [.Eq] [b] pos) ρ (decide (i = j)) := dt_cmpR op_eq rd_eqI ha hb (nomark _)
theorem dt_neI {i j : Int} (ha : De X a ρ (.int i)) (hb : De X b ρ (.int j)) : Dt X (.Compare a [.NotEq] [b] pos) ρ (!decide (i = j)) := dt_cmpR op_ne rd_neI ha hb (nomark _)
theorem dt_eqB {i j : Bool} (ha : De X a ρ (.bool i)) (hb : De X b ρ (.bool j)) : Dt X (.Compare a [.Eq] [b] pos) ρ (decide (i = j)) := dt_cmpR op_eq rd_eqB ha hb (nomark _)
theorem dt_neB {i j : Bool} (ha : De X a ρ (.bool i)) (hb : De X b ρ (.bool j)) : Dt X (.Compare a [.NotEq] [b] pos) ρ (!decide (i = j)) := dt_cmpR op_ne rd_neB ha hb (nomark _)
theorem dt_isnot {i j : Bool} (ha : De X a ρ (.bool i)) (hb : De X b ρ (.bool j)) : Dt X (.Compare a [.IsNot] [b] pos) ρ (!decide (i = j)) := dt_cmpR op_notBl rd_notB ha hb (nomark _)
theorem dt_eqD {dx dy : PyData} (hu : X.A.units + 64 < cLine) (ha : De X a ρ dx) (hb : De X b ρ dy) (h1 : SeqAt.shaped dx = true) (h2 : SeqAt.shaped dy = true) : Dt X (.Compare a [.Eq] [b] pos) ρ (PyData.eqv dx dy) := dt_cmpR (op_eqD hu) (rd_eqD h1 h2) ha hb (nomark _)
theorem dt_neD {dx dy : PyData} (hu : X.A.units + 64 < cLine) (ha : De X a ρ dx) (hb : De X b ρ dy) (h1 : SeqAt.shaped dx = true) (h2 : SeqAt.shaped dy = true) : Dt X (.Compare a [.NotEq] [b] pos) ρ (!PyData.eqv dx dy) := dt_cmpR (op_neD hu) (rd_neD h1 h2) ha hb (nomark _)
theorem dt_in {dx : PyData} {ds : List PyData} (hu : X.A.units + 65 < cLine) (ha : De X a ρ dx) (hb : De X b ρ (.list ds)) (h1 : SeqAt.shaped dx = true) (h2 : SeqAt.shaped (.list ds) = true) (hm : behindInMarks .In b = false := by rfl) : Dt X (.Compare a [.In] [b] pos) ρ (ds.any fun z => PyData.eqv z dx) := dt_cmpR (op_inD hu) (rd_inD h1 h2) ha hb hm
theorem dt_notIn {dx : PyData} {ds : List PyData} (hu : X.A.units + 65 < cLine) (ha : De X a ρ dx) (hb : De X b ρ (.list ds)) (h1 : SeqAt.shaped dx = true) (h2 : SeqAt.shaped (.list ds) = true) (hm : behindInMarks .NotIn b = false := by rfl) : Dt X (.Compare a [.NotIn] [b] pos) ρ (!ds.any fun z => PyData.eqv z dx) := dt_cmpR (op_notInD hu) (rd_notInD h1 h2) ha hb hm
theorem dt_isN {d : PyData} {j pos'} (ha : De X a ρ d) : Dt X (.Compare a [.Is] [.Constant .none j pos'] pos) ρ (match d with | .none => true | _ => false) := by
  refine pt_wk (pt_cmp (pc_isN ha)) ?_
  rintro σ H K' ⟨G, s, en, q⟩
  refine ⟨G, s, en, fun x dx G1 H1 n1 p1 d1 => ?_⟩
  subst p1
  cases d1 <;> exact ⟨_, rfl, q G1 H1 n1⟩
theorem dt_notN {d : PyData} {j pos'} (ha : De X a ρ d) : Dt X (.Compare a [.IsNot] [.Constant .none j pos'] pos) ρ (match d with | .none => false | _ => true) := by
  refine pt_wk (pt_cmp (pc_notN ha)) ?_
  rintro σ H K' ⟨G, s, en, q⟩
  refine ⟨G, s, en, fun x dx G1 H1 n1 p1 d1 => ?_⟩
  subst p1
  cases d1 <;> exact ⟨_, rfl, q G1 H1 n1⟩
theorem dt_chain {i j k : Int} {c : Expr} (ha : De X a ρ (.int i)) (hb : De X b ρ (.int j)) (hc : De X c ρ (.int k)) (hm : lastMarks [.LtE, .LtE] [b, c] = false := by with_unfolding_all rfl) : Dt X (.Compare a [.LtE, .LtE] [b, c] pos) ρ (decide (i ≤ j) && decide (j ≤ k)) := by
  refine pt_wk (pt_chain op_le op_le ha hb hc hm) ?_
  rintro σ H K' ⟨G, s, en, q⟩
  refine ⟨G, s, en, fun x dx G1 H1 n1 p1 d1 => ⟨G1, n1.s, en.mono n1.g, fun y dy G2 H2 n2 p2 d2 => ?_⟩⟩
  subst p1 p2
  cases d1; cases d2
  refine ⟨i, j, rfl, rfl, decide (i ≤ j), rfl, ?_⟩
  cases hf : decide (i ≤ j) with
  | false =>
    refine iteF ?_
    refine ⟨false, rfl, ?_⟩
    have := q G2 H2 (n1.trans n2)
    rw [hf] at this
    exact this
  | true =>
    refine iteT ?_
    refine ⟨G2, n2.s, en.mono (n1.g.trans n2.g), fun z dz G3 H3 n3 p3 d3 => ?_⟩
    subst p3
    cases d3
    refine ⟨j, k, rfl, rfl, decide (j ≤ k), rfl, ?_⟩
    have := q G3 H3 ((n1.trans n2).trans n3)
    rw [hf, Bool.true_and] at this
    exact this
theorem dt_eq {y : Bool} (h : Dt X c ρ x) (e : x = y) : Dt X c ρ y := e ▸ h
theorem db_ifFE (hc : Dt X c ρ x) (he : x = false) (hr : Db X rest ρ R) : Db X (.If c body [] pos :: rest) ρ R := db_ifF (he ▸ hc) hr
theorem db_ifTE (hc : Dt X c ρ x) (he : x = true) (hr : Db X body ρ R) : Db X (.If c body [] pos :: rest) ρ R := db_ifT (he ▸ hc) hr
theorem dn_ifE (hc : Dt X c ρ x) (he : x = false) (hr : DbN X rest ρ) : DbN X (.If c body [] pos :: rest) ρ := dn_if (he ▸ hc) hr
theorem de_allF {g : α → Bool} (hc : X.calm = true) (hm : X.mg "all" = none) (ha : De X a ρ (.list (L.map fun z => .bool (g z)))) (hg : Gl X "all" := by rfl) (hs : starEach [a] X.env = (false, eval a X.env) :: starEach [] X.env := by rfl) : De X (.Call (.Name "all" p) [a] [] pos) ρ (.bool (L.all g)) := by
  have h : De X a ρ (.list ((L.map g).map .bool)) := by rw [List.map_map]; exact ha
  refine de_eq (de_all hc hm h hg hs) ?_
  rw [List.all_map]
  rfl
theorem de_anyF {g : α → Bool} (hc : X.calm = true) (hm : X.mg "any" = none) (ha : De X a ρ (.list (L.map fun z => .bool (g z)))) (hg : Gl X "any" := by rfl) (hs : starEach [a] X.env = (false, eval a X.env) :: starEach [] X.env := by rfl) : De X (.Call (.Name "any" p) [a] [] pos) ρ (.bool (L.any g)) := by
  have h : De X a ρ (.list ((L.map g).map .bool)) := by rw [List.map_map]; exact ha
  refine de_eq (de_any hc hm h hg hs) ?_
  rw [List.any_map]
  rfl
theorem de_lenE {ds : List PyData} (hm : X.mg "len" = none) (ha : De X a ρ (.list ds)) (hg : Gl X "len" := by rfl) (hs : starEach [a] X.env = (false, eval a X.env) :: starEach [] X.env := by rfl) : De X (.Call (.Name "len" p) [a] [] pos) ρ (.int ds.length) :=
  de_lenL (P := fun x => x = ds) hm (de_imp ha fun d h => ⟨ds, rfl, h⟩) (fun _ h => by rw [h]) hg hs
/-- tuples of ints by < -/
theorem de_ltT {ns ms : List Int} (hu : X.A.units < cLine) (ha : De X a ρ (.tuple (ns.map .int))) (hb : De X b ρ (.tuple (ms.map .int))) : De X (.Compare a [.Lt] [b] pos) ρ (.bool (HT.lexLt ns ms)) := by
  refine de_cmpR (op_ltT hu) ?_ ha hb (nomark _)
  rintro x y _ _ G H rfl rfl s hx hy k q
  obtain ⟨t, rfl, h1⟩ := intsT_of hx
  obtain ⟨t', rfl, h2⟩ := intsT_of hy
  exact ⟨t, t', ns, ms, rfl, rfl, same_t s h1, same_t s h2, q _ _ G H (Nxt.refl s) rfl (.bl _)⟩

/-! comprehensions over a list that is known; target: one name, a pair, three names; with a test or without -/
abbrev PGb (X : Cx) (scope : Scope) (tg : Expr) (g : TG) : Prop := ∀ (s : Shared) (H : Hp) (C : Addr) (cl : List (Str × Addr)) (fp : List Addr), PG (X.blk s H scope (compEnvC scope cl C X.env) fp) tg g
theorem hR_of (hq : ∀ a, a ∈ L → q a = true) : ∀ M : List α, M = L → (fun d => d = PyData.list (L.map f)) (.list ((M.filter q).map f)) := by
  rintro M rfl
  rw [List.filter_eq_self.mpr hq]
theorem de_lcG {g : TG} {ρof : α → DEnv} (hc : X.calm = true) (hN : X.N.Nodup) (ok : BlkOk X.N X.env.scope scope own) {ds : List PyData} (hi : Di X tg iter ρ (· = ds)) (hds : ds = L.map enc) (hgP : PGb X scope tg g)
    (hg : ∀ a, a ∈ L → TgD X.K g (wipeD ρ (own.map (·.2))) (own.map (·.2)) (enc a) (ρof a)) (hz : L.length < sizeLine)
    (he : ∀ (s : Shared) (H : Hp) (C : Addr) (cl : List (Str × Addr)) (fp : List Addr) (a : α), a ∈ L → De (X.blk s H scope (compEnvC scope cl C X.env) fp) elt (ρof a) (f a))
    (hs : ∀ x, foldedSetIterable iter X.env x = pure x := by intro _; rfl) : De X (.ListComp elt [⟨tg, iter, [], 0⟩] scope pos) ρ (.list (L.map f)) :=
  de_lc (P := fun M => M = L) (A := fun a => a ∈ L) (p := fun _ => true) hc hN ok (pi_wk hi fun σ H R ⟨G, s, en, q⟩ => ⟨G, s, en, fun J ds G' H' n pd it => q J ds G' H' n ⟨L, rfl, pd.trans hds⟩ it⟩) hgP hg (fun M e a ha => e ▸ ha) (fun M e => e ▸ hz) (hR_of fun _ _ => rfl)
    (fun _ _ _ _ _ _ _ => pts_nilD) (fun s H C cl fp a ha _ => he s H C cl fp a ha) hs
theorem de_lcF {g : TG} {ρof : α → DEnv} (hc : X.calm = true) (hN : X.N.Nodup) (ok : BlkOk X.N X.env.scope scope own) {ds : List PyData} (hi : Di X tg iter ρ (· = ds)) (hds : ds = L.map enc) (hgP : PGb X scope tg g)
    (hg : ∀ a, a ∈ L → TgD X.K g (wipeD ρ (own.map (·.2))) (own.map (·.2)) (enc a) (ρof a)) (hz : L.length < sizeLine)
    (ht : ∀ (s : Shared) (H : Hp) (C : Addr) (cl : List (Str × Addr)) (fp : List Addr) (a : α), a ∈ L → Dt (X.blk s H scope (compEnvC scope cl C X.env) fp) cond (ρof a) (q a))
    (he : ∀ (s : Shared) (H : Hp) (C : Addr) (cl : List (Str × Addr)) (fp : List Addr) (a : α), a ∈ L → q a = true → De (X.blk s H scope (compEnvC scope cl C X.env) fp) elt (ρof a) (f a))
    (hs : ∀ x, foldedSetIterable iter X.env x = pure x := by intro _; rfl) : De X (.ListComp elt [⟨tg, iter, [cond], 0⟩] scope pos) ρ (.list ((L.filter q).map f)) :=
  de_lc (P := fun M => M = L) (A := fun a => a ∈ L) (p := q) hc hN ok (pi_wk hi fun σ H R ⟨G, s, en, q⟩ => ⟨G, s, en, fun J ds G' H' n pd it => q J ds G' H' n ⟨L, rfl, pd.trans hds⟩ it⟩) hgP hg (fun M e a ha => e ▸ ha) (fun M e => e ▸ hz) (fun M e => by rw [e])
    (fun s H C cl fp a ha => pts_one (ht s H C cl fp a ha)) (fun s H C cl fp a ha hp => he s H C cl fp a ha hp) hs
theorem ps_lcG {y : Str} {py spos : Pos} {g : TG} {ρof : α → DEnv} (hc : X.calm = true) (hN : X.N.Nodup) (hy : X.N[i]? = some y) (hyl : X.env.scope.names.lookup y = some .local) (hsw : swapsWith (.ListComp elt [⟨tg, iter, [], 0⟩] scope pos) (some (.Name y py)) spos.line X.env = pure true)
    (ok : BlkOk X.N X.env.scope scope own) {ds : List PyData} (hi : Di X tg iter ρ (· = ds)) (hds : ds = L.map enc) (hgP : PGb X scope tg g)
    (hg : ∀ a, a ∈ L → TgD X.K g (wipeD ρ (own.map (·.2))) (own.map (·.2)) (enc a) (ρof a)) (hz : L.length < sizeLine)
    (he : ∀ (s : Shared) (H : Hp) (C : Addr) (cl : List (Str × Addr)) (fp : List Addr) (a : α), a ∈ L → De (X.blk s H scope (compEnvC scope cl C X.env) fp) elt (ρof a) (f a))
    (hs : ∀ x, foldedSetIterable iter X.env x = pure x := by intro _; rfl) : PS X (.Assign [.Name y py] (.ListComp elt [⟨tg, iter, [], 0⟩] scope pos) spos) (tAsg (tD X.K ρ (fun d => d = .list (L.map f))) (gName i)) :=
  ps_lc (P := fun M => M = L) (A := fun a => a ∈ L) (p := fun _ => true) hc hN hy hyl hsw ok (pi_wk hi fun σ H R ⟨G, s, en, q⟩ => ⟨G, s, en, fun J ds G' H' n pd it => q J ds G' H' n ⟨L, rfl, pd.trans hds⟩ it⟩) hgP hg (fun M e a ha => e ▸ ha) (fun M e => e ▸ hz) (hR_of fun _ _ => rfl)
    (fun _ _ _ _ _ _ _ => pts_nilD) (fun s H C cl fp a ha _ => he s H C cl fp a ha) hs
theorem ps_lcF {y : Str} {py spos : Pos} {g : TG} {ρof : α → DEnv} (hc : X.calm = true) (hN : X.N.Nodup) (hy : X.N[i]? = some y) (hyl : X.env.scope.names.lookup y = some .local) (hsw : swapsWith (.ListComp elt [⟨tg, iter, [cond], 0⟩] scope pos) (some (.Name y py)) spos.line X.env = pure true)
    (ok : BlkOk X.N X.env.scope scope own) {ds : List PyData} (hi : Di X tg iter ρ (· = ds)) (hds : ds = L.map enc) (hgP : PGb X scope tg g)
    (hg : ∀ a, a ∈ L → TgD X.K g (wipeD ρ (own.map (·.2))) (own.map (·.2)) (enc a) (ρof a)) (hz : L.length < sizeLine)
    (ht : ∀ (s : Shared) (H : Hp) (C : Addr) (cl : List (Str × Addr)) (fp : List Addr) (a : α), a ∈ L → Dt (X.blk s H scope (compEnvC scope cl C X.env) fp) cond (ρof a) (q a))
    (he : ∀ (s : Shared) (H : Hp) (C : Addr) (cl : List (Str × Addr)) (fp : List Addr) (a : α), a ∈ L → q a = true → De (X.blk s H scope (compEnvC scope cl C X.env) fp) elt (ρof a) (f a))
    (hs : ∀ x, foldedSetIterable iter X.env x = pure x := by intro _; rfl) : PS X (.Assign [.Name y py] (.ListComp elt [⟨tg, iter, [cond], 0⟩] scope pos) spos) (tAsg (tD X.K ρ (fun d => d = .list ((L.filter q).map f))) (gName i)) :=
  ps_lc (P := fun M => M = L) (A := fun a => a ∈ L) (p := q) hc hN hy hyl hsw ok (pi_wk hi fun σ H R ⟨G, s, en, q⟩ => ⟨G, s, en, fun J ds G' H' n pd it => q J ds G' H' n ⟨L, rfl, pd.trans hds⟩ it⟩) hgP hg (fun M e a ha => e ▸ ha) (fun M e => e ▸ hz) (fun M e => by rw [e])
    (fun s H C cl fp a ha => pts_one (ht s H C cl fp a ha)) (fun s H C cl fp a ha hp => he s H C cl fp a ha hp) hs
/-- the target's binding, by its form -/
theorem tgN {K : PySem.W.Frag} (i : Nat) {d : PyData} : TgD K (gName i) (wipeD ρ [i]) [i] d ((wipeD ρ [i]).set i (some d)) := tg_name List.mem_cons_self
theorem tg2 {K : PySem.W.Frag} (i j : Nat) {d e : PyData} : TgD K (gTup K 2 (gCons (gName i) (gCons (gName j) gNil))) (wipeD ρ [i, j]) [i, j] (.tuple [d, e]) (((wipeD ρ [i, j]).set i (some d)).set j (some e)) := tg_pair (by simp) (by simp)
theorem tg3 {K : PySem.W.Frag} (i j k : Nat) {d e f : PyData} : TgD K (gTup K 3 (gCons (gName i) (gCons (gName j) (gCons (gName k) gNil)))) (wipeD ρ [i, j, k]) [i, j, k] (.tuple [d, e, f]) ((((wipeD ρ [i, j, k]).set i (some d)).set j (some e)).set k (some f)) := tg_triple (by simp) (by simp) (by simp)
end

/-! ### data of the program -/
abbrev dTs (xs : List Int) : PyData := .tuple (xs.map .int)
abbrev encH (h : Nat × Nat) : PyData := .tuple [.int h.1, .int h.2]
abbrev dHs (hs : List (Nat × Nat)) : PyData := .tuple (hs.map encH)
abbrev dWeb (n : Nat) (hs : List (Nat × Nat)) : PyData := .tuple [.int n, dHs hs]
abbrev dL (xs : List Int) : PyData := .list (xs.map .int)
abbrev dNs (xs : List Nat) : PyData := .list (xs.map fun (k : Nat) => .int k)
abbrev dLs (xs : List (List Int)) : PyData := .list (xs.map dTs)
end TW
/-! TWF1: webs.py, the checks. -/
namespace TW
open PySem PySem.Spec PyProof.Rows L2
section
variable {P : Program} {w : World} {K : PySem.W.Frag} {mg : Str → Option Value} {base : Heap} {f : Addr} {fd : FuncData}
theorem getE {ds : List PyData} {k : Nat} {d : PyData} (h : ds[k]? = some d) : atI ds ((k : Nat) : Int) = some d := atI_nat h

def fIsInt : List PyData → (PyData → Prop) → Prop := fun ds R => ∃ i : Int, ds = [.int i] ∧ R (.bool true)
theorem ok_is_int (B : Bl mg) (F : Fun K "is_int" "is_int" s_is_int f fd) : FnOk P w K mg base CX0 1 f fd p_is_int (spD K fIsInt) := by
  refine fun_d F sc_is_int (fun ds R h => ?_) fun cdv A outer s H E hr ds R h => ?_
  · obtain ⟨i, rfl, _⟩ := h; rfl
  · obtain ⟨i, rfl, hR⟩ := h
    refine db_eq (d := .bool true) ?_ hR
    exact db_ret (de_and (de_isi (T' := "int") (r := true) B.b_isinstance B.b_int (de_var 0 rfl) ty_int (by decide +kernel) bt_int) fun _ => (de_not (de_isi (T' := "int") (r := false) B.b_isinstance B.b_bool (de_var 0 rfl) ty_int (by decide +kernel) bt_bool)))

def fIsIn : List PyData → (PyData → Prop) → Prop := fun ds R => ∃ i a b : Int, ds = [.int i, .int a, .int b] ∧ (a ≤ i ∧ i ≤ b) ∧ R (.bool true)
theorem ok_is_in (B : Bl mg) (C_is_int : Cal P w K mg base 1 "is_int" p_is_int (spD K fIsInt)) (F : Fun K "is_in" "is_in" s_is_in f fd) : FnOk P w K mg base CX0 2 f fd p_is_in (spD K fIsIn) := by
  refine fun_d F sc_is_in (fun ds R h => ?_) fun cdv A outer s H E hr ds R h => ?_
  · obtain ⟨i, a, b, rfl, _⟩ := h; rfl
  · obtain ⟨i, a, b, rfl, hb, hR⟩ := h
    refine db_eq (d := .bool true) ?_ hR
    refine db_ret (de_eq (de_and (de_callC C_is_int hr (by decide) (das_cons (de_var 0 rfl) das_nil) ⟨i, rfl, rfl⟩) fun _ => (de_chain (de_var 1 rfl) (de_var 0 rfl) (de_var 2 rfl))) ?_)
    simp [hb]

def fIsPair : List PyData → (PyData → Prop) → Prop := fun ds R => ∃ a b n : Nat, ds = [encH (a, b), .int n] ∧ (a < b ∧ b < n) ∧ R (.bool true)
theorem ok_is_pair (B : Bl mg) (C_is_in : Cal P w K mg base 2 "is_in" p_is_in (spD K fIsIn)) (F : Fun K "is_pair" "is_pair" s_is_pair f fd) : FnOk P w K mg base CX0 3 f fd p_is_pair (spD K fIsPair) := by
  refine fun_d F sc_is_pair (fun ds R h => ?_) fun cdv A outer s H E hr ds R h => ?_
  · obtain ⟨a, b, n, rfl, _⟩ := h; rfl
  · obtain ⟨a, b, n, rfl, hb, hR⟩ := h
    refine db_eq (d := .bool true) ?_ hR
    refine db_ifFE (dt_w (dw_or (dt_not (dt_val (de_isi (T' := "tuple") (r := true) B.b_isinstance B.b_tuple (de_var 0 rfl) ty_tup (by decide +kernel) bt_tuple))) fun _ => (dw_or1 (dt_neI (de_lenT B.b_len (de_var 0 rfl)) de_int)))) rfl ?_
    refine db_ret (de_eq (de_and (de_allF rfl B.b_all (de_lcG (own := [("field", 2)]) (L := [a, b]) (enc := fun (k : Nat) => .int k) (f := fun _ => .bool true) rfl sc_is_pair.nd (blkOk_by (by kernel_rfl)) (di_tup (de_var 0 rfl)) rfl (fun _ _ _ _ _ => pg_name (i := 2) sc_is_pair.nd rfl (by first | exact Or.inl rfl | exact Or.inr rfl)) (fun _ _ => tgN 2) (show 2 < sizeLine by decide) (fun _ _ _ _ _ k ha => (de_callC C_is_in hr (by decide) (das_cons (de_var 2 rfl) (das_cons de_int (das_cons (de_sub (de_var 1 rfl) de_int) das_nil))) ⟨_, _, _, rfl, ?_, rfl⟩)))) fun _ => (de_lt (de_ixT (de_var 0 rfl) de_int rfl) (de_ixT (de_var 0 rfl) de_int rfl))) ?_)
    · have e : k = a ∨ k = b := by simpa using ha
      rcases e with rfl | rfl <;> omega
    · simp [hb.1]

theorem lex_lt {a b : Nat × Nat} (h : a.1 < b.1 ∨ (a.1 = b.1 ∧ a.2 < b.2)) : HT.lexLt [(a.1 : Int), a.2] [(b.1 : Int), b.2] = true := by
  rcases h with h | ⟨h, h2⟩
  · have e : ¬ ((a.1 : Int) = b.1) := by omega
    have e2 : (a.1 : Int) < b.1 := by omega
    simp [HT.lexLt, e, e2]
  · have e2 : (a.2 : Int) < b.2 := by omega
    have e : ¬ ((a.2 : Int) = b.2) := by omega
    simp [HT.lexLt, h, e, e2]
def fHasForm : List PyData → (PyData → Prop) → Prop := fun ds R => ∃ n hs, ds = [dWeb n hs] ∧ WebOk n hs ∧ R (.bool true)
theorem ok_has_form (B : Bl mg) (C_is_in : Cal P w K mg base 2 "is_in" p_is_in (spD K fIsIn)) (C_is_pair : Cal P w K mg base 3 "is_pair" p_is_pair (spD K fIsPair)) (F : Fun K "has_form" "has_form" s_has_form f fd) : FnOk P w K mg base CX0 4 f fd p_has_form (spD K fHasForm) := by
  refine fun_d F sc_has_form (fun ds R h => ?_) fun cdv A outer s H E hr ds R h => ?_
  · obtain ⟨n, hs, rfl, _⟩ := h; rfl
  · obtain ⟨n, hs, rfl, hw, hR⟩ := h
    refine db_eq (d := .bool true) ?_ hR
    have h1 := hw.pos
    have h2 := hw.small
    have h3 := hw.few
    refine db_ifFE (dt_w (dw_or (dt_not (dt_val (de_isi (T' := "tuple") (r := true) B.b_isinstance B.b_tuple (de_var 0 rfl) ty_tup (by decide +kernel) bt_tuple))) fun _ => (dw_or (dt_neI (de_lenT B.b_len (de_var 0 rfl)) de_int) fun _ => (dw_or1 (dt_not (dt_val (de_callC C_is_in hr (by decide) (das_cons (de_ixT (de_var 0 rfl) de_int rfl) (das_cons de_int (das_cons (de_globE B.c_MOST_FIELDS) das_nil))) ⟨_, _, _, rfl, by omega, rfl⟩))))))) rfl ?_
    refine db_ifFE (dt_w (dw_or (dt_not (dt_val (de_isi (T' := "tuple") (r := true) B.b_isinstance B.b_tuple (de_ixT (de_var 0 rfl) de_int rfl) ty_tup (by decide +kernel) bt_tuple))) fun _ => (dw_or1 (dt_not (dt_val (de_allF (L := hs) (g := fun _ => true) rfl B.b_all (de_lcG (own := [("hedge", 1)]) (L := hs) (enc := encH) (f := fun _ => .bool true) rfl sc_has_form.nd (blkOk_by (by kernel_rfl)) (di_tup (de_ixT (de_var 0 rfl) de_int rfl)) rfl (fun _ _ _ _ _ => pg_name (i := 1) sc_has_form.nd rfl (by first | exact Or.inl rfl | exact Or.inr rfl)) (fun _ _ => tgN 1) (by rw [sizeLine_eq]; omega) (fun _ _ _ _ _ a ha => (de_callC C_is_pair hr (by decide) (das_cons (de_var 1 rfl) (das_cons (de_ixT (de_var 0 rfl) de_int rfl) das_nil)) ⟨a.1, a.2, n, rfl, hw.rng a ha, rfl⟩))))))))) (by simp) ?_
    refine db_ret (de_eq (de_allF (L := hs.zip hs.tail) (g := fun _ => true) rfl B.b_all (de_lcG (own := [("one", 2), ("other", 3)]) (L := hs.zip hs.tail) (enc := fun p => .tuple [encH p.1, encH p.2]) (f := fun _ => .bool true) rfl sc_has_form.nd (blkOk_by (by kernel_rfl)) (di_zipT B.b_zip (de_ixT (de_var 0 rfl) de_int rfl) (de_sliceT (de_ixT (de_var 0 rfl) de_int rfl) (do_some de_int) do_none)) ?_ (fun _ _ _ _ _ => pg_tup rfl (pgs_cons (pg_name (i := 2) sc_has_form.nd rfl (by first | exact Or.inl rfl | exact Or.inr rfl)) (pgs_cons (pg_name (i := 3) sc_has_form.nd rfl (by first | exact Or.inl rfl | exact Or.inr rfl)) pgs_nil))) (fun _ _ => tg2 2 3) ?_ (fun _ _ _ _ _ a ha => (de_eq (de_ltT (ns := [(a.1.1 : Int), a.1.2]) (ms := [(a.2.1 : Int), a.2.2]) (hu0 hr) (de_var 2 rfl) (de_var 3 rfl)) ?_)))) ?_)
    · unfold cutP zipP
      rw [show HT.sIx (hs.map encH).length 0 (some 1) = min 1 (hs.map encH).length from HT.sIx_nat _ 0 1, HT.sIx_none]
      cases hs with
      | nil => rfl
      | cons x r =>
        rw [show min 1 (List.map encH (x :: r)).length = 1 by simp]
        rw [show (List.map encH (x :: r)).drop 1 = r.map encH from rfl, List.take_of_length_le (by simp), List.zip_map, List.map_map]
        rfl
    · rw [List.length_zip, sizeLine_eq]
      omega
    · have : ∀ l : List (Nat × Nat), l.Pairwise (fun a b => a.1 < b.1 ∨ (a.1 = b.1 ∧ a.2 < b.2)) → ∀ p ∈ l.zip l.tail, p.1.1 < p.2.1 ∨ (p.1.1 = p.2.1 ∧ p.1.2 < p.2.2) := by
        intro l
        induction l with
        | nil => intro _ p hp; cases hp
        | cons x r ih =>
          intro hl p hp
          cases r with
          | nil => cases hp
          | cons y r =>
            rcases List.mem_cons.mp hp with rfl | hp
            · exact (List.pairwise_cons.mp hl).1 y List.mem_cons_self
            · exact ih (List.pairwise_cons.mp hl).2 p hp
      rw [lex_lt (this hs hw.srt a ha)]
    · simp
end
end TW
/-! TWG: loops with objects that change: what is still outside of G. -/
namespace TW
open PySem PySem.Spec PyProof.Rows L2

section
variable {G0 H0 G H G' H' G2 H2 : Hp}
/-- an object that is not in G, and was not there at the start, is changed -/
theorem Nxt.mut {p : Addr} {o : HO} (n : Nxt G0 H0 G H) (h0 : H0 p = none) (hg : G p = none) : Nxt G0 H0 G (upd H p o) :=
  ⟨fun b x e => by rw [upd_ne (ne_of_none e h0)]; exact n.h b x e, n.g, same_upd2 n.s hg, n.f⟩
def addG (G H : Hp) (as : List Addr) : Hp := fun b => if b ∈ as then H b else G b
theorem addG_in {b : Addr} {as : List Addr} (h : b ∈ as) : addG G H as b = H b := by unfold addG; rw [if_pos h]
theorem addG_out {b : Addr} {as : List Addr} (h : b ∉ as) : addG G H as b = G b := by unfold addG; rw [if_neg h]
theorem Nxt.takes {as : List Addr} (n : Nxt G0 H0 G H) (h : ∀ b ∈ as, H0 b = none ∧ G b = none) : Nxt G0 H0 (addG G H as) H := by
  refine ⟨n.h, fun b x e => ?_, fun b x e => ?_, fun b h1 h2 => ?_⟩
  · have e1 := n.g b x e
    rw [addG_out fun hb => by rw [(h b hb).2] at e1; cases e1]
    exact e1
  · by_cases hb : b ∈ as
    · rw [addG_in hb] at e; exact e
    · rw [addG_out hb] at e; exact n.s b x e
  · rw [addG_out fun hb => by rw [(h b hb).1] at h2; exact h2]
    exact n.f b h1 h2
theorem same_addG {as : List Addr} (h : ∀ b ∈ as, G b = none) : Same G (addG G H as) := fun b x e => by
  rw [addG_out fun hb => by rw [h b hb] at e; cases e]
  exact e
theorem Nxt.stay {b : Addr} {o : HO} (n : Nxt G H G' H') (hb : H b = some o) (hg : G b = none) (hm : Ch (some o)) : H' b = some o ∧ G' b = none := ⟨n.h b o hb, n.f b hg (by rw [hb]; exact hm)⟩
/-- tuples never change -/
def tupG (G H : Hp) : Hp := fun b => match H b with
  | some (.tup t) => some (.tup t)
  | _ => G b
theorem same_tupG (s : Same G H) : Same G (tupG G H) := fun b x e => by
  have h := s b x e
  unfold tupG
  rw [h]
  cases x <;> first | rfl | exact e
theorem tupG_same (s : Same G H) : Same (tupG G H) H := fun b x e => by
  unfold tupG at e
  cases h : H b with
  | none => rw [h] at e; exact absurd (s b x e) (by rw [h]; exact fun q => by cases q)
  | some o => rw [h] at e; cases o <;> first | exact e | exact h ▸ s b x e
theorem tupG_at {b : Addr} {t : List V} (h : H b = some (.tup t)) : tupG G H b = some (.tup t) := by unfold tupG; rw [h]
theorem Nxt.tups (n : Nxt G0 H0 G H) : Nxt G0 H0 (tupG G H) H := by
  refine ⟨n.h, n.g.trans (same_tupG n.s), tupG_same n.s, fun b h1 h2 => ?_⟩
  have h3 := n.f b h1 h2
  cases e : H0 b with
  | none => rw [e] at h2; exact h2.elim
  | some o =>
    unfold tupG
    rw [n.h b o e]
    rw [e] at h2
    cases o <;> first | exact h2.elim | exact h3

/-- a list of lists of ints, all of them still to be changed -/
structure Rows (H0 G H : Hp) (a : Addr) (rows : List (List Int)) (rs : List Addr) : Prop where
  ha : H a = some (.lst (rs.map V.ref))
  len : rs.length = rows.length
  nd : (a :: rs).Nodup
  h0 : ∀ b ∈ a :: rs, H0 b = none ∧ G b = none
  row : ∀ (i : Nat) (r : Addr) (row : List Int), rs[i]? = some r → rows[i]? = some row → H r = some (.lst (row.map V.int))
variable {a : Addr} {rows : List (List Int)} {rs : List Addr}
theorem Rows.at (R : Rows H0 G H a rows rs) {r : Addr} (h : r ∈ rs) : ∃ row : List Int, H r = some (.lst (row.map V.int)) := by
  obtain ⟨i, hi, e⟩ := List.getElem_of_mem h
  have h1 : rs[i]? = some r := by rw [List.getElem?_eq_getElem hi, e]
  have hi2 : i < rows.length := by rw [← R.len]; exact hi
  have h2 : rows[i]? = some rows[i] := List.getElem?_eq_getElem hi2
  exact ⟨_, R.row i r _ h1 h2⟩
theorem Rows.nxt (R : Rows H0 G H a rows rs) (n : Nxt G H G' H') : Rows H0 G' H' a rows rs := by
  refine ⟨n.h _ _ R.ha, R.len, R.nd, fun b hb => ⟨(R.h0 b hb).1, n.f b (R.h0 b hb).2 ?_⟩, fun i r row h1 h2 => n.h _ _ (R.row i r row h1 h2)⟩
  rcases List.mem_cons.mp hb with rfl | hb
  · rw [R.ha]; trivial
  · obtain ⟨row, e⟩ := R.at hb
    rw [e]; trivial
theorem Rows.put (R : Rows H0 G H a rows rs) {i : Nat} {r : Addr} {row row' : List Int} (h1 : rs[i]? = some r) (h2 : rows[i]? = some row) : Rows H0 G (upd H r (.lst (row'.map V.int))) a (rows.set i row') rs := by
  have hr : r ∈ rs := List.mem_of_getElem? h1
  have hne : a ≠ r := fun e => (List.nodup_cons.mp R.nd).1 (e ▸ hr)
  refine ⟨by rw [upd_ne hne]; exact R.ha, by rw [List.length_set]; exact R.len, R.nd, R.h0, fun j r' row2 e1 e2 => ?_⟩
  by_cases hj : i = j
  · subst hj
    rw [h1] at e1
    cases e1
    have hi : i < rows.length := (List.getElem?_eq_some_iff.mp h2).1
    rw [List.getElem?_set_self hi] at e2
    cases e2
    exact upd_same
  · rw [List.getElem?_set_ne hj] at e2
    have : r' ≠ r := fun e => hj (nd_ix (List.nodup_cons.mp R.nd).2 h1 (e ▸ e1))
    rw [upd_ne this]
    exact R.row j r' row2 e1 e2
theorem Rows.take {K : PySem.W.Frag} (R : Rows H0 G H a rows rs) (n : Nxt G0 H0 G H) : ∃ G', Nxt G0 H0 G' H ∧ Same G G' ∧ Dp K G' (.ref a) (.list (rows.map dL)) := by
  refine ⟨addG G H (a :: rs), n.takes R.h0, same_addG fun b hb => (R.h0 b hb).2, ?_⟩
  refine .lst (xs := rs.map V.ref) (.inl (.inl (by rw [addG_in List.mem_cons_self]; exact R.ha))) ?_
  have all : ∀ (l : List Addr) (m : List (List Int)), l.length = m.length → (∀ (i : Nat) (r : Addr) (row : List Int), l[i]? = some r → m[i]? = some row → addG G H (a :: rs) r = some (.lst (row.map V.int))) → DpAll K (addG G H (a :: rs)) (l.map V.ref) (m.map dL) := by
    intro l
    induction l with
    | nil => intro m hm _; cases m with | nil => exact .nil | cons => simp at hm
    | cons r l ih =>
      intro m hm h
      cases m with
      | nil => simp at hm
      | cons row m =>
        refine .cons (.lst (.inl (.inl (h 0 r row rfl rfl))) (dpAll_ints row)) (ih m (by simpa using hm) fun i r' row' e1 e2 => h (i + 1) r' row' (by simpa using e1) (by simpa using e2))
  refine all rs rows R.len fun i r row e1 e2 => ?_
  rw [addG_in (List.mem_cons_of_mem _ (List.mem_of_getElem? e1))]
  exact R.row i r row e1 e2
end

/-! ### the slots, written out -/
section
variable {K : PySem.W.Frag} {G : Hp} {σ : L2.St} {ρ : DEnv} {v : V} {d : PyData} {x : Option V}
theorem ev0 : EnvD K G [] [] := ⟨rfl, fun i d e => by simp at e⟩
theorem evS (h : Dp K G v d) (en : EnvD K G σ ρ) : EnvD K G (some v :: σ) (some d :: ρ) := by
  refine ⟨by rw [List.length_cons, List.length_cons, en.len], fun i d' e => ?_⟩
  match i with
  | 0 => exact ⟨v, rfl, Option.some.inj (Option.some.inj e) ▸ h⟩
  | i + 1 => exact en.get i d' e
theorem evN (en : EnvD K G σ ρ) : EnvD K G (x :: σ) (none :: ρ) := by
  refine ⟨by rw [List.length_cons, List.length_cons, en.len], fun i d' e => ?_⟩
  match i with
  | 0 => cases e
  | i + 1 => exact en.get i d' e
end

/-! ### reading a block step by step -/
section
variable {t u : TS} {te : TE} {D : Ends} {σ : L2.St} {H : Hp} {i : Nat}
theorem q_seq (h : t { D with nx := u D } σ H) : tSeq t u D σ H := h
theorem q_set (h : te σ H fun x H1 => D.nx (σ.set i (some x)) H1) : tAsg te (gName i) D σ H := h
theorem q_drop (h : te σ H fun _ H1 => D.nx σ H1) : tDrop te D σ H := h
theorem q_ret (h : te σ H D.rt) : tRet te D σ H := h
theorem q_D {K : PySem.W.Frag} {ρ : DEnv} {P : PyData → Prop} {G : Hp} {Q : VK} (sG : Same G H) (en : EnvD K G σ ρ) (q : ∀ v d G' H', Nxt G H G' H' → P d → Dp K G' v d → Q v H') : tD K ρ P σ H Q := ⟨G, sG, en, q⟩
end

/-! ### loops -/
/-- a for over data: the invariant by the turn, the slots, G, H; N: what the turn is to reach -/
theorem t_for {K : PySem.W.Frag} {ρ : DEnv} {P : List PyData → Prop} {g : TG} {tb : TS} {D : Ends} {σ : L2.St} {G H : Hp} (sG : Same G H) (en : EnvD K G σ ρ) (Iv : List PyData → Nat → L2.St → Hp → Hp → Prop)
    (h0 : ∀ ds G' H', P ds → Nxt G H G' H' → Iv ds 0 σ G' H')
    (hN : ∀ ds i σ2 G2 H2 G3 H3, P ds → Iv ds i σ2 G2 H2 → Nxt G2 H2 G3 H3 → Iv ds i σ2 G3 H3)
    (hs : ∀ ds (i : Nat) d x σ2 G2 H2, P ds → ds[i]? = some d → Iv ds i σ2 G2 H2 → Same G G2 → Same G2 H2 → Dp K G2 x d → ∀ N : L2.St → Hp → Prop, (∀ σ4 G4 H4, Same G2 G4 → Same G4 H4 → Iv ds (i + 1) σ4 G4 H4 → N σ4 H4) →
      g x σ2 H2 fun σ3 H3 => tb { D with nx := N, ct := N, bk := D.nx } σ3 H3)
    (hd : ∀ ds σ2 G2 H2, P ds → Iv ds ds.length σ2 G2 H2 → Same G G2 → Same G2 H2 → D.nx σ2 H2) : tFor (tI K ρ P) g tb D σ H := by
  refine ⟨G, sG, en, fun J ds G1 H1 n1 pd it => ?_⟩
  unfold IsIt at it
  refine ⟨fun i m σ2 H2 => m = ds.length - i ∧ i ≤ ds.length ∧ ∃ G2, Same G1 G2 ∧ Same G2 H2 ∧ Iv ds i σ2 G2 H2, ⟨ds.length, by simp, Nat.zero_le _, G1, Same.refl _, n1.s, h0 ds _ _ pd n1⟩, ?_⟩
  rintro i m σ2 H2 ⟨rfl, hi, G2, g2, s2, iv⟩
  by_cases hlt : i < ds.length
  · refine .inr ⟨it.goes i H2 hlt (g2.trans s2), fun σ4 H4 => ∃ G4, Same G1 G4 ∧ Same G4 H4 ∧ Iv ds (i + 1) σ4 G4 H4, fun σ' H' p' => ⟨ds.length - (i + 1), by omega, rfl, hlt, p'⟩, fun x H' y => ?_⟩
    obtain ⟨d, hdi, hy⟩ := it.yields i H2 x H' hlt (g2.trans s2) y
    obtain ⟨G3, n3, dx⟩ := hy G2 g2 s2
    exact hs ds i d x σ2 G3 H' pd hdi (hN ds i σ2 G2 H2 G3 H' pd iv n3) (n1.g.trans (g2.trans n3.g)) n3.s dx _ fun σ4 G4 H4 a b c => ⟨G4, (g2.trans n3.g).trans a, b, c⟩
  · have e : i = ds.length := by omega
    subst e
    exact .inl ⟨it.stops H2 (g2.trans s2), hd ds σ2 G2 H2 pd iv (n1.g.trans g2) s2⟩
/-- while, by an invariant over the slots, G, H and a measure -/
theorem t_while {c : TT} {tb : TS} {D : Ends} {σ : L2.St} {G H : Hp} (Iv : Nat → L2.St → Hp → Hp → Prop) (m0 : Nat) (sG : Same G H) (h0 : Iv m0 σ G H)
    (hs : ∀ m σ2 G2 H2, Iv m σ2 G2 H2 → Same G G2 → Same G2 H2 → ∀ N : L2.St → Hp → Prop, (∀ m' σ4 G4 H4, m' < m → Same G2 G4 → Same G4 H4 → Iv m' σ4 G4 H4 → N σ4 H4) →
      c σ2 H2 fun b H3 => if b = true then tb { D with nx := N, ct := N, bk := D.nx } σ2 H3 else D.nx σ2 H3)
    (mono : ∀ σ H Q Q', (∀ b H1, Q b H1 → Q' b H1) → c σ H Q → c σ H Q') : tWhile c tb D σ H := by
  refine ⟨fun m σ2 H2 => ∃ G2, Same G G2 ∧ Same G2 H2 ∧ Iv m σ2 G2 H2, ⟨m0, G, Same.refl _, sG, h0⟩, ?_⟩
  rintro m σ2 H2 ⟨G2, g2, s2, iv⟩
  refine mono σ2 H2 _ _ (fun b H3 q => ?_) (hs m σ2 G2 H2 iv g2 s2 (fun σ4 H4 => ∃ m' G4, m' < m ∧ Same G G4 ∧ Same G4 H4 ∧ Iv m' σ4 G4 H4) fun m' σ4 G4 H4 hm a b c => ⟨m', G4, hm, g2.trans a, b, c⟩)
  cases b with
  | true => exact ⟨_, fun σ' H' ⟨m', G4, hm, a, b, c⟩ => ⟨m', hm, G4, a, b, c⟩, q⟩
  | false => exact q
theorem tDt_mono {K : PySem.W.Frag} {ρ : DEnv} {b : Bool} : ∀ σ H Q Q', (∀ b H1, Q b H1 → Q' b H1) → tDt K ρ b σ H Q → tDt K ρ b σ H Q' := fun σ H Q Q' w ⟨G, s, en, q⟩ => ⟨G, s, en, fun G' H' n => w _ _ (q G' H' n)⟩

section
variable {X : Cx} {ρ : DEnv} {e a b : Expr} {pos p : Pos} {K : PySem.W.Frag}
/-- [[] for x in range(n)]: n new lists -/
theorem t_rows {G0 H0 G H : Hp} {σ : L2.St} {n : Int} {i : Nat} {Q : VK} (hn : 0 ≤ n ∧ n < 1000) (nx : Nxt G0 H0 G H) (en : EnvD K G σ ρ)
    (q : ∀ a rs G' H', Nxt G0 H0 G' H' → Same G G' → Rows H0 G' H' a (List.replicate n.toNat []) rs → Q (.ref a) H') :
    tLc (iRng1 (tDs K ρ (fun x => x = [.int n]))) (gName i) tYes (tLst tNil) [i] σ H Q := by
  refine ⟨G, nx.s, en, fun vs ds G1 H1 n1 p1 d1 => ?_⟩
  subst p1
  obtain ⟨v, rfl, dv⟩ := dp1 d1
  cases dv
  refine ⟨n, rfl, by omega, by omega, fun D hD => ?_⟩
  have n01 := nx.trans n1
  refine lc_range (g := gName i) (tt := tYes) (te := tLst tNil) (vs := [i]) (σ := σ) (H1 := H1) (D := D) (Qd := Q (.ref D)) (fun k H2 => ∃ rs, Nxt G0 H0 G1 H2 ∧ Rows H0 G1 H2 D (List.replicate k []) rs) ?_ (fun k H2 hk ⟨rs, n2, R⟩ => ?_) (fun H2 ⟨rs, n2, R⟩ => q D rs G1 H2 n2 n1.g R)
  · have h0 : H0 D = none := n01.h.free hD
    refine ⟨[], (n01.mut h0 (n01.s.free hD)), ⟨upd_same, rfl, by simp, fun b hb => ?_, fun i r row h1 _ => by simp at h1⟩⟩
    have : b = D := by simpa using hb
    subst this
    exact ⟨h0, n01.s.free hD⟩
  · refine ⟨wipe_set_mem List.mem_cons_self |>.trans (wipe_wipe fun _ h => h), ?_⟩
    unfold tYes
    refine iteT ?_
    refine ⟨by decide, fun r hr => ⟨rs.map V.ref, ?_, ?_, rs ++ [r], ?_, ?_⟩⟩
    · rw [upd_ne (ne_of_none R.ha hr)]; exact R.ha
    · rw [List.length_map, R.len, List.length_replicate, sizeLine_eq]; omega
    · have hr0 : H0 r = none := n2.h.free hr
      have hg : G1 r = none := n2.s.free hr
      have hD0 := R.h0 D List.mem_cons_self
      exact (n2.mut hr0 hg).mut hD0.1 hD0.2
    · have hr0 : H0 r = none := n2.h.free hr
      have hg : G1 r = none := n2.s.free hr
      have hDr : D ≠ r := ne_of_none R.ha hr
      have hrs : r ∉ rs := fun h => by
        obtain ⟨row, e⟩ := R.at h
        rw [e] at hr; cases hr
      refine ⟨?_, ?_, ?_, ?_, ?_⟩
      · rw [upd_same, List.map_append]; rfl
      · rw [List.length_append, R.len, List.length_replicate, List.length_replicate]; rfl
      · have := R.nd
        rw [List.nodup_cons] at this ⊢
        refine ⟨fun h => ?_, ?_⟩
        · rcases List.mem_append.mp h with h | h
          · exact this.1 h
          · exact hDr (by simpa using h)
        · rw [List.nodup_append]
          exact ⟨this.2, by simp, fun a ha b hb => by have : b = r := by simpa using hb
                                                      subst this; exact fun e => hrs (e ▸ ha)⟩
      · intro b hb
        rcases List.mem_cons.mp hb with rfl | hb
        · exact R.h0 _ List.mem_cons_self
        · rcases List.mem_append.mp hb with hb | hb
          · exact R.h0 b (List.mem_cons_of_mem _ hb)
          · have : b = r := by simpa using hb
            subst this; exact ⟨hr0, hg⟩
      · intro j r' row h1 h2
        have hrow : row = [] := by
          have := List.mem_of_getElem? h2
          exact (List.mem_replicate.mp this).2
        subst hrow
        have hj : r' ≠ D := fun e => by
          subst e
          rcases List.mem_append.mp (List.mem_of_getElem? h1) with h | h
          · exact (List.nodup_cons.mp R.nd).1 h
          · exact hDr (by simpa using h)
        rw [upd_ne hj]
        by_cases hjr : r' = r
        · subst hjr; exact upd_same
        · rw [upd_ne hjr]
          rcases List.mem_append.mp (List.mem_of_getElem? h1) with h | h
          · obtain ⟨row, e⟩ := R.at h
            obtain ⟨m, hm, e1⟩ := List.getElem_of_mem h
            have h3 : rs[m]? = some r' := by rw [List.getElem?_eq_getElem hm, e1]
            have hm2 : m < k := by have := R.len; rw [List.length_replicate] at this; omega
            exact R.row m r' [] h3 (by simp [hm2])
          · exact absurd (by simpa using h) hjr
/-- sorted of a list of ints -/
theorem de_sortedI {ns ms : List Int} (hm : X.mg "sorted" = none) (ha : De X a ρ (.list (ns.map .int))) (hp : ms.Perm ns) (hs : ms.Pairwise (· ≤ ·)) (hg : Gl X "sorted" := by rfl) (hst : starEach [a] X.env = (false, eval a X.env) :: starEach [] X.env := by rfl) : De X (.Call (.Name "sorted" p) [a] [] pos) ρ (.list (ms.map .int)) := by
  refine de_callB cr_sortedI ?_ hg hm PyProof.Rows.boot_sorted (das_oneR ha hst) (he := hst) (hpl := by rfl)
  rintro xs _ G H ⟨_, rfl, rfl⟩ s dp k q
  obtain ⟨v, rfl, dv⟩ := dp1 dp
  obtain ⟨t, rfl, h1⟩ := ints_of dv
  refine ⟨t, ns, rfl, s.seq h1, fun ns' p' h2 h3 hn => ?_⟩
  have e : ns' = ms := (h2.trans hp.symm).eq_of_pairwise (fun x y _ _ h1 h2 => Int.le_antisymm h1 h2) h3 hs
  subst e
  have n := Nxt.new (o := .lst (ns'.map V.int)) s hn
  exact q _ _ _ _ n rfl (.lst (.inl (.inl upd_same)) (dpAll_ints ns'))
/-- int(n) of an int -/
theorem de_intE {i : Int} (hm : X.mg "int" = none) (ha : De X a ρ (.int i)) (hg : Gl X "int" := by rfl) (hst : starEach [a] X.env = (false, eval a X.env) :: starEach [] X.env := by rfl) : De X (.Call (.Name "int" p) [a] [] pos) ρ (.int i) := by
  refine de_callTy call_int1 ?_ hg hm bt_int (das_oneR ha hst) (he := hst) (hpl := by rfl)
  rintro xs _ G H ⟨_, rfl, rfl⟩ s dp k q
  obtain ⟨v, rfl, dv⟩ := dp1 dp
  cases dv
  exact .inl ⟨i, rfl, q _ _ G H (Nxt.refl s) rfl (.int _)⟩
end
end TW
/-! TWF2: neighbors. -/
namespace TW
open PySem PySem.Spec PyProof.Rows L2
/-- what the list of neighbors asks of a web -/
structure WebR (n : Nat) (hs : List (Nat × Nat)) : Prop where
  small : n ≤ 6
  rng : ∀ h ∈ hs, h.1 < h.2 ∧ h.2 < n
  few : hs.length ≤ 100
theorem WebOk.r {n : Nat} {hs : List (Nat × Nat)} (h : WebOk n hs) : WebR n hs := ⟨h.small, h.rng, h.few⟩
abbrev dNear (n : Nat) (hs : List (Nat × Nat)) : PyData := .list ((List.range n).map fun k => dNs (nbr hs k))
def fNears : List PyData → (PyData → Prop) → Prop := fun ds R => ∃ n hs, ds = [dWeb n hs] ∧ WebR n hs ∧ R (dNear n hs)
section
variable {P : Program} {w : World} {K : PySem.W.Frag} {mg : Str → Option Value} {base : Heap} {f : Addr} {fd : FuncData}

theorem ok_nears_of (B : Bl mg) (F : Fun K "nears_of" "nears_of" s_nears_of f fd) : FnOk P w K mg base CX0 1 f fd p_nears_of (spD K fNears) := by
  refine F.ok sc_nears_of (fun vs H Q E h => ?_) (fun cdv A outer s H vs Q E hr h => ?_)
  · obtain ⟨G, ds, R, _, dp, ⟨n, hs, rfl, _⟩, _⟩ := h
    exact dpAll_len dp
  · obtain ⟨G, ds, R, sG, dp, ⟨n, hs, rfl, hw, hR⟩, q⟩ := h
    obtain ⟨v, rfl, dv⟩ := dp1 dp
    have en : EnvD K G (L2.start N_nears_of [v]) (startD N_nears_of [dWeb n hs]) := evS dv (evN (evN (evN (evN (evN ev0)))))
    have hnd := sc_nears_of.nd
    refine ⟨_, pss_cons (ps_setLc (i := 1) (own := [("field", 2)]) (g := gName 2) (tt := tYes) (te := tLst tNil) rfl hnd rfl rfl (sw_true rfl rfl rfl (by decide +kernel))
          (pi_range1 rfl B.b_range (das_cons (ρ := startD N_nears_of [dWeb n hs]) (d := .int n) (ds := []) (de_ixT (ds := [.int n, dHs hs]) (de_var 0 rfl) de_int rfl) das_nil)) (blkOk_by (by kernel_rfl)) (fun _ _ _ _ _ => pg_name (i := 2) hnd rfl (by first | exact Or.inl rfl | exact Or.inr rfl)) (fun _ _ _ _ _ => pts_nil) (fun _ _ _ _ _ => pe_lst pa_nil))
      (pss_cons (ps_for PassesOwn.never rfl (di_tup (ρ := startD N_nears_of [dWeb n hs]) (ds := hs.map encH) (de_ixT (ds := [.int n, dHs hs]) (de_var 0 rfl) de_int rfl)) (pg_tup rfl (pgs_cons (pg_name (i := 3) hnd rfl (.inl rfl)) (pgs_cons (pg_name (i := 4) hnd rfl (.inl rfl)) pgs_nil)))
        (pss_cons (ps_expr (pe_bm PySem.F.plainAttrs_list PySem.F.slot_list_append PySem.F.type_list_append mt_append (pe_ix ix_list (pv 1) (pv 3) (fun _ _ => rfl)) (pa_cons (pv 4) pa_nil)))
        (pss_one (ps_expr (pe_bm PySem.F.plainAttrs_list PySem.F.slot_list_append PySem.F.type_list_append mt_append (pe_ix ix_list (pv 1) (pv 4) (fun _ _ => rfl)) (pa_cons (pv 3) pa_nil))))))
      (db_ret (ρ := [some (dWeb n hs), some (.list ((List.range n).map fun k => dL ((rawN hs k).map fun (j : Nat) => (j : Int)))), none, none, none, none]) (R := fun d => d = .list ((List.range n).map fun k => dNs (nbr hs k)))
        (de_lcG (own := [("told", 5)]) (L := List.range n) (enc := fun k => dL ((rawN hs k).map fun (j : Nat) => (j : Int))) (f := fun k => dNs (nbr hs k)) rfl hnd (blkOk_by (by kernel_rfl)) (di_listE (de_var 1 rfl)) rfl (fun _ _ _ _ _ => pg_name (i := 5) hnd rfl (by first | exact Or.inl rfl | exact Or.inr rfl)) (fun _ _ => tgN 5) (by rw [List.length_range, sizeLine_eq]; have := hw.small; omega)
          (fun _ _ _ _ _ k _ => de_eq (de_sortedI (ms := (nbr hs k).map fun (j : Nat) => (j : Int)) B.b_sorted (de_var 5 rfl) ((nbr_perm hs k).map _) (List.pairwise_map.mpr ((nbr_sorted hs k).imp fun h => by omega))) (by rw [List.map_map]; rfl))))), ?_⟩
    have hn := hw.small
    refine q_seq (q_set (t_rows (n := (n : Int)) (by omega) (Nxt.refl sG) en fun a rs G1 H1 n1 g1 R1 => ?_))
    dsimp only
    rw [show ((n : Int).toNat) = n from Int.toNat_natCast n] at R1
    have en1 := en.mono g1
    refine q_seq (t_for (K := K) n1.s (ρ := startD N_nears_of [dWeb n hs]) ?_ (fun _ i σ2 G2 H2 => ∃ y3 y4 v, σ2 = [some v, some (.ref a), none, y3, y4, none] ∧ Nxt G H G2 H2 ∧ Dp K G2 v (dWeb n hs) ∧ Rows H G2 H2 a (rowsAt n (hs.take i)) rs) ?_ ?_ ?_ ?_)
    · exact evS (dp_mono g1 dv) (evN (evN (evN (evN (evN ev0)))))
    · intro ds G2 H2 e nx
      refine ⟨none, none, v, rfl, n1.trans nx, dp_mono (g1.trans nx.g) dv, ?_⟩
      rw [List.take_zero, rowsAt_nil]
      exact R1.nxt nx
    · rintro ds i σ2 G2 H2 G3 H3 _ ⟨y3, y4, v, rfl, n2, dv, R2⟩ nx
      exact ⟨y3, y4, v, rfl, n2.trans nx, dp_mono nx.g dv, R2.nxt nx⟩
    · rintro ds i d x σ2 G2 H2 rfl hd ⟨y3, y4, v, rfl, n2, dv, R2⟩ g2 s2 dx N hN
      rw [List.getElem?_map] at hd
      cases hh : hs[i]? with
      | none => rw [hh] at hd; cases hd
      | some h =>
        rw [hh] at hd
        have e : encH h = d := Option.some.inj hd
        subst e
        obtain ⟨T, xs, rfl, hT, dxs⟩ := dp_tup_inv dx
        obtain ⟨x1, x2, rfl, d1, d2⟩ := dp2 dxs
        cases d1; cases d2
        have hm := List.mem_of_getElem? hh
        have hr1 := hw.rng h hm
        have l1 : h.1 < n := by omega
        have l2 : h.2 < n := hr1.2
        have len := R2.len
        rw [rowsAt_len] at len
        have q1 : rs[h.1]? = some (rs[h.1]'(by omega)) := List.getElem?_eq_getElem (by omega)
        have q2 : rs[h.2]? = some (rs[h.2]'(by omega)) := List.getElem?_eq_getElem (by omega)
        have R3 := R2.put (row' := ((rawN (hs.take i) h.1).map fun (k : Nat) => (k : Int)) ++ [(h.2 : Int)]) q1 (rowsAt_get l1)
        have get2 : ((rowsAt n (hs.take i)).set h.1 (((rawN (hs.take i) h.1).map fun (k : Nat) => (k : Int)) ++ [(h.2 : Int)]))[h.2]? = some ((rawN (hs.take i) h.2).map fun (k : Nat) => (k : Int)) := by
          rw [List.getElem?_set_ne (by omega), rowsAt_get l2]
        have R4 := R3.put (row' := ((rawN (hs.take i) h.2).map fun (k : Nat) => (k : Int)) ++ [(h.1 : Int)]) q2 get2
        rw [rowsAt_step l1 l2 (by omega)] at R4
        have et : hs.take i ++ [(h.1, h.2)] = hs.take (i + 1) := by rw [List.take_add_one, hh]; rfl
        rw [et] at R4
        have f1 := R2.h0 _ (List.mem_cons_of_mem _ (List.mem_of_getElem? q1))
        have f2 := R2.h0 _ (List.mem_cons_of_mem _ (List.mem_of_getElem? q2))
        have n3 := n2.mut (o := .lst ((((rawN (hs.take i) h.1).map fun (k : Nat) => (k : Int)) ++ [(h.2 : Int)]).map V.int)) f1.1 f1.2
        have n4 := n3.mut (o := .lst ((((rawN (hs.take i) h.2).map fun (k : Nat) => (k : Int)) ++ [(h.1 : Int)]).map V.int)) f2.1 f2.2
        have sz : ∀ k : Nat, (rawN (hs.take i) k).length < 1000 := fun k => by
          have := rawN_len (hs.take i) k
          have h2 : (hs.take i).length ≤ hs.length := by rw [List.length_take]; omega
          have := hw.few
          omega
        have g1' := R2.row h.1 _ _ q1 (rowsAt_get l1)
        have g2' := R3.row h.2 _ _ q2 get2
        refine ⟨T, [.int h.1, .int h.2], rfl, same_t s2 hT, rfl, .int h.1, [.int h.2], rfl, .int h.2, [], rfl, rfl, ?_⟩
        refine ⟨.ref a, rfl, .int h.1, rfl, a, rs.map V.ref, (h.1 : Nat), V.ref _, rfl, rfl, .inl (.inl R2.ha), atI_nat (by rw [List.getElem?_map, q1]; rfl), ?_⟩
        refine ⟨.inl ⟨rfl, _, .inl (.inl g1')⟩, .int h.2, rfl, _, _, .int h.2, rfl, rfl, g1', by rw [List.length_map, List.length_map, sizeLine_eq]; have := sz h.1; omega, ?_⟩
        rw [show (((rawN (hs.take i) h.1).map fun (k : Nat) => (k : Int)).map V.int ++ [V.int h.2]) = ((((rawN (hs.take i) h.1).map fun (k : Nat) => (k : Int)) ++ [(h.2 : Int)]).map V.int) by simp]
        refine ⟨.ref a, rfl, .int h.2, rfl, a, rs.map V.ref, (h.2 : Nat), V.ref _, rfl, rfl, .inl (.inl R3.ha), atI_nat (by rw [List.getElem?_map, q2]; rfl), ?_⟩
        refine ⟨.inl ⟨rfl, _, .inl (.inl g2')⟩, .int h.1, rfl, _, _, .int h.1, rfl, rfl, g2', by rw [List.length_map, List.length_map, sizeLine_eq]; have := sz h.2; omega, ?_⟩
        rw [show (((rawN (hs.take i) h.2).map fun (k : Nat) => (k : Int)).map V.int ++ [V.int h.1]) = ((((rawN (hs.take i) h.2).map fun (k : Nat) => (k : Int)) ++ [(h.1 : Int)]).map V.int) by simp]
        exact hN _ G2 _ (Same.refl _) n4.s ⟨_, _, v, rfl, n4, dv, R4⟩
    · rintro ds σ2 G2 H2 rfl ⟨y3, y4, v, rfl, n2, dv, R2⟩ g2 s2
      rw [List.length_map, List.take_length] at R2
      obtain ⟨G3, n3, g3, d3⟩ := R2.take (K := K) n2
      have : (rowsAt n hs).map dL = (List.range n).map fun k => dL ((rawN hs k).map fun (j : Nat) => (j : Int)) := by unfold rowsAt; rw [List.map_map]; rfl
      rw [this] at d3
      exact ⟨G3, n3.s, evS (dp_mono g3 dv) (evS d3 (evN (evN (evN (evN ev0))))), fun v' d' G' H' n' e dp' => q v' d' G' H' (n3.trans n') (e ▸ hR) dp'⟩


theorem ok_law_nears (B : Bl mg) (F : Fun K "_law_nears" "_law_nears" s_law_nears f fd) : FnOk P w K mg base CX0 1 f fd p_law_nears (spD K fNears) := by
  refine F.ok sc_law_nears (fun vs H Q E h => ?_) (fun cdv A outer s H vs Q E hr h => ?_)
  · obtain ⟨G, ds, R, _, dp, ⟨n, hs, rfl, _⟩, _⟩ := h
    exact dpAll_len dp
  · obtain ⟨G, ds, R, sG, dp, ⟨n, hs, rfl, hw, hR⟩, q⟩ := h
    obtain ⟨v, rfl, dv⟩ := dp1 dp
    have en : EnvD K G (L2.start N_law_nears [v]) (startD N_law_nears [dWeb n hs]) := evS dv (evN (evN (evN (evN (evN ev0)))))
    have hnd := sc_law_nears.nd
    refine ⟨_, pss_cons (ps_setLc (i := 1) (own := [("_law_field", 2)]) (g := gName 2) (tt := tYes) (te := tLst tNil) rfl hnd rfl rfl (sw_true rfl rfl rfl (by decide +kernel))
          (pi_range1 rfl B.b_range (das_cons (ρ := startD N_law_nears [dWeb n hs]) (d := .int n) (ds := []) (de_ixT (ds := [.int n, dHs hs]) (de_var 0 rfl) de_int rfl) das_nil)) (blkOk_by (by kernel_rfl)) (fun _ _ _ _ _ => pg_name (i := 2) hnd rfl (by first | exact Or.inl rfl | exact Or.inr rfl)) (fun _ _ _ _ _ => pts_nil) (fun _ _ _ _ _ => pe_lst pa_nil))
      (pss_cons (ps_for PassesOwn.never rfl (di_tup (ρ := startD N_law_nears [dWeb n hs]) (ds := hs.map encH) (de_ixT (ds := [.int n, dHs hs]) (de_var 0 rfl) de_int rfl)) (pg_tup rfl (pgs_cons (pg_name (i := 3) hnd rfl (.inl rfl)) (pgs_cons (pg_name (i := 4) hnd rfl (.inl rfl)) pgs_nil)))
        (pss_cons (ps_expr (pe_bm PySem.F.plainAttrs_list PySem.F.slot_list_append PySem.F.type_list_append mt_append (pe_ix ix_list (pv 1) (pv 3) (fun _ _ => rfl)) (pa_cons (pv 4) pa_nil)))
        (pss_one (ps_expr (pe_bm PySem.F.plainAttrs_list PySem.F.slot_list_append PySem.F.type_list_append mt_append (pe_ix ix_list (pv 1) (pv 4) (fun _ _ => rfl)) (pa_cons (pv 3) pa_nil))))))
      (db_ret (ρ := [some (dWeb n hs), some (.list ((List.range n).map fun k => dL ((rawN hs k).map fun (j : Nat) => (j : Int)))), none, none, none, none]) (R := fun d => d = .list ((List.range n).map fun k => dNs (nbr hs k)))
        (de_lcG (own := [("_law_told", 5)]) (L := List.range n) (enc := fun k => dL ((rawN hs k).map fun (j : Nat) => (j : Int))) (f := fun k => dNs (nbr hs k)) rfl hnd (blkOk_by (by kernel_rfl)) (di_listE (de_var 1 rfl)) rfl (fun _ _ _ _ _ => pg_name (i := 5) hnd rfl (by first | exact Or.inl rfl | exact Or.inr rfl)) (fun _ _ => tgN 5) (by rw [List.length_range, sizeLine_eq]; have := hw.small; omega)
          (fun _ _ _ _ _ k _ => de_eq (de_sortedI (ms := (nbr hs k).map fun (j : Nat) => (j : Int)) B.b_sorted (de_var 5 rfl) ((nbr_perm hs k).map _) (List.pairwise_map.mpr ((nbr_sorted hs k).imp fun h => by omega))) (by rw [List.map_map]; rfl))))), ?_⟩
    have hn := hw.small
    refine q_seq (q_set (t_rows (n := (n : Int)) (by omega) (Nxt.refl sG) en fun a rs G1 H1 n1 g1 R1 => ?_))
    dsimp only
    rw [show ((n : Int).toNat) = n from Int.toNat_natCast n] at R1
    have en1 := en.mono g1
    refine q_seq (t_for (K := K) n1.s (ρ := startD N_law_nears [dWeb n hs]) ?_ (fun _ i σ2 G2 H2 => ∃ y3 y4 v, σ2 = [some v, some (.ref a), none, y3, y4, none] ∧ Nxt G H G2 H2 ∧ Dp K G2 v (dWeb n hs) ∧ Rows H G2 H2 a (rowsAt n (hs.take i)) rs) ?_ ?_ ?_ ?_)
    · exact evS (dp_mono g1 dv) (evN (evN (evN (evN (evN ev0)))))
    · intro ds G2 H2 e nx
      refine ⟨none, none, v, rfl, n1.trans nx, dp_mono (g1.trans nx.g) dv, ?_⟩
      rw [List.take_zero, rowsAt_nil]
      exact R1.nxt nx
    · rintro ds i σ2 G2 H2 G3 H3 _ ⟨y3, y4, v, rfl, n2, dv, R2⟩ nx
      exact ⟨y3, y4, v, rfl, n2.trans nx, dp_mono nx.g dv, R2.nxt nx⟩
    · rintro ds i d x σ2 G2 H2 rfl hd ⟨y3, y4, v, rfl, n2, dv, R2⟩ g2 s2 dx N hN
      rw [List.getElem?_map] at hd
      cases hh : hs[i]? with
      | none => rw [hh] at hd; cases hd
      | some h =>
        rw [hh] at hd
        have e : encH h = d := Option.some.inj hd
        subst e
        obtain ⟨T, xs, rfl, hT, dxs⟩ := dp_tup_inv dx
        obtain ⟨x1, x2, rfl, d1, d2⟩ := dp2 dxs
        cases d1; cases d2
        have hm := List.mem_of_getElem? hh
        have hr1 := hw.rng h hm
        have l1 : h.1 < n := by omega
        have l2 : h.2 < n := hr1.2
        have len := R2.len
        rw [rowsAt_len] at len
        have q1 : rs[h.1]? = some (rs[h.1]'(by omega)) := List.getElem?_eq_getElem (by omega)
        have q2 : rs[h.2]? = some (rs[h.2]'(by omega)) := List.getElem?_eq_getElem (by omega)
        have R3 := R2.put (row' := ((rawN (hs.take i) h.1).map fun (k : Nat) => (k : Int)) ++ [(h.2 : Int)]) q1 (rowsAt_get l1)
        have get2 : ((rowsAt n (hs.take i)).set h.1 (((rawN (hs.take i) h.1).map fun (k : Nat) => (k : Int)) ++ [(h.2 : Int)]))[h.2]? = some ((rawN (hs.take i) h.2).map fun (k : Nat) => (k : Int)) := by
          rw [List.getElem?_set_ne (by omega), rowsAt_get l2]
        have R4 := R3.put (row' := ((rawN (hs.take i) h.2).map fun (k : Nat) => (k : Int)) ++ [(h.1 : Int)]) q2 get2
        rw [rowsAt_step l1 l2 (by omega)] at R4
        have et : hs.take i ++ [(h.1, h.2)] = hs.take (i + 1) := by rw [List.take_add_one, hh]; rfl
        rw [et] at R4
        have f1 := R2.h0 _ (List.mem_cons_of_mem _ (List.mem_of_getElem? q1))
        have f2 := R2.h0 _ (List.mem_cons_of_mem _ (List.mem_of_getElem? q2))
        have n3 := n2.mut (o := .lst ((((rawN (hs.take i) h.1).map fun (k : Nat) => (k : Int)) ++ [(h.2 : Int)]).map V.int)) f1.1 f1.2
        have n4 := n3.mut (o := .lst ((((rawN (hs.take i) h.2).map fun (k : Nat) => (k : Int)) ++ [(h.1 : Int)]).map V.int)) f2.1 f2.2
        have sz : ∀ k : Nat, (rawN (hs.take i) k).length < 1000 := fun k => by
          have := rawN_len (hs.take i) k
          have h2 : (hs.take i).length ≤ hs.length := by rw [List.length_take]; omega
          have := hw.few
          omega
        have g1' := R2.row h.1 _ _ q1 (rowsAt_get l1)
        have g2' := R3.row h.2 _ _ q2 get2
        refine ⟨T, [.int h.1, .int h.2], rfl, same_t s2 hT, rfl, .int h.1, [.int h.2], rfl, .int h.2, [], rfl, rfl, ?_⟩
        refine ⟨.ref a, rfl, .int h.1, rfl, a, rs.map V.ref, (h.1 : Nat), V.ref _, rfl, rfl, .inl (.inl R2.ha), atI_nat (by rw [List.getElem?_map, q1]; rfl), ?_⟩
        refine ⟨.inl ⟨rfl, _, .inl (.inl g1')⟩, .int h.2, rfl, _, _, .int h.2, rfl, rfl, g1', by rw [List.length_map, List.length_map, sizeLine_eq]; have := sz h.1; omega, ?_⟩
        rw [show (((rawN (hs.take i) h.1).map fun (k : Nat) => (k : Int)).map V.int ++ [V.int h.2]) = ((((rawN (hs.take i) h.1).map fun (k : Nat) => (k : Int)) ++ [(h.2 : Int)]).map V.int) by simp]
        refine ⟨.ref a, rfl, .int h.2, rfl, a, rs.map V.ref, (h.2 : Nat), V.ref _, rfl, rfl, .inl (.inl R3.ha), atI_nat (by rw [List.getElem?_map, q2]; rfl), ?_⟩
        refine ⟨.inl ⟨rfl, _, .inl (.inl g2')⟩, .int h.1, rfl, _, _, .int h.1, rfl, rfl, g2', by rw [List.length_map, List.length_map, sizeLine_eq]; have := sz h.2; omega, ?_⟩
        rw [show (((rawN (hs.take i) h.2).map fun (k : Nat) => (k : Int)).map V.int ++ [V.int h.1]) = ((((rawN (hs.take i) h.2).map fun (k : Nat) => (k : Int)) ++ [(h.1 : Int)]).map V.int) by simp]
        exact hN _ G2 _ (Same.refl _) n4.s ⟨_, _, v, rfl, n4, dv, R4⟩
    · rintro ds σ2 G2 H2 rfl ⟨y3, y4, v, rfl, n2, dv, R2⟩ g2 s2
      rw [List.length_map, List.take_length] at R2
      obtain ⟨G3, n3, g3, d3⟩ := R2.take (K := K) n2
      have : (rowsAt n hs).map dL = (List.range n).map fun k => dL ((rawN hs k).map fun (j : Nat) => (j : Int)) := by unfold rowsAt; rw [List.map_map]; rfl
      rw [this] at d3
      exact ⟨G3, n3.s, evS (dp_mono g3 dv) (evS d3 (evN (evN (evN (evN ev0))))), fun v' d' G' H' n' e dp' => q v' d' G' H' (n3.trans n') (e ▸ hR) dp'⟩

end
end TW
/-! TWF3: reach_of. -/
namespace TW
open PySem PySem.Spec PyProof.Rows L2
section
variable {P : Program} {w : World} {K : PySem.W.Frag} {mg : Str → Option Value} {base : Heap} {f : Addr} {fd : FuncData}
/-- None or an int -/
def vO : Option Int → V
  | none => .non
  | some k => .int k
def dO : Option Int → PyData
  | none => .none
  | some k => .int k
theorem vO_non {o : Option Int} : decide (vO o = .non) = o.isNone := by cases o <;> rfl
theorem vO_some (ks : List Int) : (ks.map some).map vO = ks.map V.int := by rw [List.map_map]; rfl
def fReach : List PyData → (PyData → Prop) → Prop := fun ds R => ∃ n hs first, ds = [dWeb n hs, .int (first : Nat)] ∧ WebOk n hs ∧ first < n ∧ ∀ (par : Nat → Bool) (ks : List Int), Par hs par → ks.length = n → (∀ f, f < n → ks.getD f 0 % 2 = parI par first f) → R (dL ks)
theorem rep_flat {α : Type} (x : α) : ∀ n : Nat, (List.replicate n [x]).flatten = List.replicate n x
  | 0 => rfl
  | n + 1 => by rw [List.replicate_succ, List.flatten_cons, rep_flat x n, List.replicate_succ]; rfl
theorem nat_get {ls : List Nat} {i u : Nat} (h : ls[i]? = some u) : (ls.map fun (k : Nat) => V.int k)[i]? = some (V.int u) := by rw [List.getElem?_map, h]; rfl

theorem ok_reach_of (B : Bl mg) (C_nears_of : Cal P w K mg base 1 "nears_of" p_nears_of (spD K fNears)) (F : Fun K "reach_of" "reach_of" s_reach_of f fd) : FnOk P w K mg base CX0 2 f fd p_reach_of (spD K fReach) := by
  refine F.ok sc_reach_of (fun vs H Q E h => ?_) (fun cdv A outer s H vs Q E hr h => ?_)
  · obtain ⟨G, ds, R, _, dp, ⟨n, hs, first, rfl, _⟩, _⟩ := h
    exact dpAll_len dp
  · obtain ⟨G, ds, R, sG, dp, ⟨n, hs, first, rfl, hw, hf, hR⟩, q⟩ := h
    obtain ⟨v, v2, rfl, dv, dv2⟩ := dp2 dp
    cases dv2
    have hnd := sc_reach_of.nd
    have en : EnvD K G (L2.start N_reach_of [v, .int first]) (startD N_reach_of [dWeb n hs, .int first]) := evS dv (evS (.int _) (evN (evN (evN (evN (evN ev0))))))
    refine ⟨_, pss_cons (ps_par3 (i := 2) (j := 3) (l := 4) rfl hnd rfl rfl rfl (by decide) (by decide) (by decide) rfl rfl rfl
        (pa_cons (de_callC (R := fun d => d = dNear n hs) (ρ := startD N_reach_of [dWeb n hs, .int first]) (ds := [dWeb n hs]) C_nears_of hr (by decide) (das_cons (de_var 0 rfl) das_nil) ⟨n, hs, rfl, hw.r, rfl⟩)
        (pa_cons (pe_op op_rep (pe_lst (pa_cons pe_non pa_nil)) (de_ixT (ρ := startD N_reach_of [dWeb n hs, .int first]) (d := .int n) (ds := [.int n, dHs hs]) (de_var 0 rfl) de_int rfl))
        (pa_cons (pe_lst (pa_cons (pv 1) pa_nil)) pa_nil))) (by rfl))
      (pss_cons (ps_asg pe_int (pg_sub (pv 3) (pv 1) set_list))
      (pss_cons (ps_set (i := 5) hnd rfl (.inl rfl) pe_int)
      (pss_cons (ps_while PassesOwn.never (pt_cmpR op_lt (pv 5) (pe_callB call_len rfl B.b_len boot_len (pa_cons (pv 4) pa_nil)) (nomark _))
        (pss_cons (ps_for PassesOwn.never rfl (pi_list (pe_ix ix_list (pv 2) (pe_ix ix_list (pv 4) (pv 5) (fun _ _ => rfl)) (fun _ _ => rfl))) (pg_name (i := 6) hnd rfl (.inl rfl))
          (pss_one (ps_if (pt_cmp (pc_isN (pe_ix ix_list (pv 3) (pv 6) (fun _ _ => rfl))))
            (pss_cons (ps_asg (pe_op op_add (pe_ix ix_list (pv 3) (pe_ix ix_list (pv 4) (pv 5) (fun _ _ => rfl)) (fun _ _ => rfl)) pe_int) (pg_sub (pv 3) (pv 6) set_list))
            (pss_one (ps_expr (pe_bm PySem.F.plainAttrs_list PySem.F.slot_list_append PySem.F.type_list_append mt_append (pv 4) (pa_cons (pv 6) pa_nil)))))
            pss_nil)))
        (pss_one (ps_aug (i := 5) hnd rfl (.inl rfl) pe_int ip_add))))
      (pss_one (ps_ret (pv 3)))))), ?_⟩
    obtain ⟨par, hpar⟩ := hw.par
    have hsm := hw.small
    refine q_seq ?_
    -- nears, found, line
    refine ⟨G, sG, en, fun nv nd' G1 H1 n1 e1 dn => ?_⟩
    subst e1
    refine ⟨by decide, fun l hl => ?_⟩
    have n2 := n1.trans (Nxt.new0 (o := .lst [V.non]) n1.s hl)
    refine ⟨G1, n2.s, en.mono n1.g, fun iv id' G3 H3 n3 e3 di => ?_⟩
    subst e3
    cases di
    have n4 := n2.trans n3
    refine ⟨l, n, [V.non], rfl, rfl, n3.h _ _ upd_same, by omega, by omega, by simp; rw [sizeLine_eq]; omega, fun fa hfa => ?_⟩
    rw [rep_flat, show ((n : Int).toNat) = n from Int.toNat_natCast n]
    have n5 := n4.trans (Nxt.new0 (o := .lst (List.replicate n V.non)) n4.s hfa)
    refine ⟨.int first, rfl, (show 1 ≤ sizeLine by decide), fun la hla => ?_⟩
    have n6 := n5.trans (Nxt.new0 (o := .lst [V.int first]) n5.s hla)
    have hfl : fa ≠ la := fun e => by rw [← e, upd_same] at hla; cases hla
    have h0f : H fa = none := n4.h.free hfa
    have h0l : H la = none := n5.h.free hla
    have g3f : G3 fa = none := n4.s.free hfa
    have g3l : G3 la = none := n5.s.free hla
    have dn3 := dp_mono n3.g dn
    have dv3 := dp_mono (n1.g.trans n3.g) dv
    refine ⟨nv, .ref fa, .ref la, rfl, ?_⟩
    -- found[first] = 0
    refine q_seq ?_
    refine ⟨.ref fa, rfl, .int first, rfl, fa, List.replicate n V.non, (first : Nat), first, rfl, rfl, by rw [upd_ne hfl, upd_same], ?_, ?_⟩
    · unfold ixN
      rw [if_pos (by omega), if_pos (by simp; omega)]
      rfl
    have n7 := n6.mut (o := .lst ((List.replicate n V.non).set first (V.int 0))) h0f g3f
    -- at = 0
    dsimp only
    refine q_seq (q_set ?_)
    dsimp only
    refine q_seq ?_
    have fs0 : (List.replicate n V.non).set first (V.int 0) = ((List.replicate n (none : Option Int)).set first (some 0)).map vO := by
      rw [List.map_set, List.map_replicate]; rfl
    rw [fs0] at n7 ⊢
    refine t_while (fun m σ2 G2 H2 => ∃ (fs : List (Option Int)) (ls : List Nat) (k : Nat) (y6 : Option V), m + k = n ∧ σ2 = [some v, some (.int first), some nv, some (.ref fa), some (.ref la), some (.int (k : Nat)), y6] ∧ Nxt G H G2 H2 ∧ G2 fa = none ∧ G2 la = none ∧ Dp K G2 nv (dNear n hs) ∧
      H2 fa = some (.lst (fs.map vO)) ∧ H2 la = some (.lst (ls.map fun (j : Nat) => V.int j)) ∧ Bfs n first par fs ls ∧ k ≤ ls.length ∧ ∀ i, i < k → ∀ u, ls[i]? = some u → ∀ g, Adj hs u g → g ∈ ls) n n7.s ?_ ?_ ?_
    · exact ⟨_, [first], 0, none, rfl, rfl, n7, g3f, g3l, dn3, upd_same, by rw [upd_ne (Ne.symm hfl), upd_same]; rfl, bfs_start hf, Nat.zero_le _, fun i hi => by omega⟩
    · rintro m σ2 G2 H2 ⟨fs, ls, k, y6, hmk, rfl, nx, gf, gl, dnv, hfs, hls, bf, hk, hcl⟩ g2 s2 N hN
      have hll := bf.le
      refine ⟨.int k, rfl, .ref la, rfl, .ref la, ls.length, rfl, .inl ⟨_, .inl (.inl hls), by simp⟩, k, ls.length, rfl, rfl, _, rfl, ?_⟩
      dsimp only
      by_cases hlt : k < ls.length
      · rw [if_pos (by simp; omega)]
        have hu : ls[k]? = some ls[k] := List.getElem?_eq_getElem hlt
        obtain ⟨ku, hku⟩ := (bf.mem ls[k]).mp (List.getElem_mem hlt)
        have un : ls[k] < n := bf.lt (List.getElem_mem hlt)
        obtain ⟨na, nxs, rfl, hn1, hn2⟩ := dp_lst_inv dnv
        obtain ⟨w, hw1, hw2⟩ := dpAll_get hn2 (i := ls[k]) (d := dNs (nbr hs ls[k])) (by simp [un])
        have hw2' : Dp K G2 w (.list (((nbr hs ls[k]).map fun (j : Nat) => (j : Int)).map .int)) := by rw [List.map_map]; exact hw2
        obtain ⟨wa, rfl, hwl⟩ := ints_of hw2'
        refine q_seq ?_
        refine ⟨.ref na, rfl, .ref la, rfl, .int k, rfl, la, _, (k : Nat), .int (ls[k] : Nat), rfl, rfl, .inl (.inl hls), atI_nat (nat_get hu), na, nxs, (ls[k] : Nat), .ref wa, rfl, rfl, s2.seq hn1, atI_nat hw1, wa, rfl, ⟨_, s2.seq hwl⟩, ?_⟩
        refine for_list (xs := ((nbr hs ls[k]).map fun (j : Nat) => (j : Int)).map V.int) (fun i σ3 H3 => ∃ (fs' : List (Option Int)) (ls' : List Nat) (y6 : Option V), σ3 = [some v, some (.int first), some (.ref na), some (.ref fa), some (.ref la), some (.int (k : Nat)), y6] ∧ Nxt G H G2 H3 ∧
          H3 fa = some (.lst (fs'.map vO)) ∧ H3 la = some (.lst (ls'.map fun (j : Nat) => V.int j)) ∧ Bfs n first par fs' ls' ∧ (∃ more, ls' = ls ++ more) ∧ fs'[ls[k]]? = some (some ku) ∧ ∀ j, j < i → ∀ g, (nbr hs ls[k])[j]? = some g → g ∈ ls') ?_ ?_ ?_ ?_
        · exact ⟨fs, ls, y6, rfl, nx, hfs, hls, bf, ⟨[], by rw [List.append_nil]⟩, hku, fun j hj => by omega⟩
        · rintro i σ3 H3 _ ⟨fs', ls', y6, rfl, nx3, _⟩
          exact nx3.s.seq hwl
        · rintro i x σ3 H3 hx ⟨fs', ls', y6, rfl, nx3, hfs', hls', bf', ⟨more, rfl⟩, hku', hcl'⟩
          rw [List.getElem?_map, List.getElem?_map] at hx
          cases hg : (nbr hs ls[k])[i]? with
          | none => rw [hg] at hx; cases hx
          | some g =>
            rw [hg] at hx
            have hx' : V.int g = x := Option.some.inj hx
            subst hx'
            have hadj : Adj hs ls[k] g := mem_nbr.mp (List.mem_of_getElem? hg)
            have gn : g < n := (hw.adj hadj).2
            have gl : g < fs'.length := by rw [bf'.len]; exact gn
            have hgf : (fs'.map vO)[g]? = some (vO fs'[g]) := by rw [List.getElem?_map, List.getElem?_eq_getElem gl]; rfl
            have hku2 : (ls ++ more)[k]? = some ls[k] := by rw [List.getElem?_append_left hlt]; exact hu
            refine ⟨.ref fa, rfl, .int g, rfl, fa, _, (g : Nat), vO fs'[g], rfl, rfl, .inl (.inl hfs'), atI_nat hgf, _, rfl, ?_⟩
            rw [vO_non]
            cases hfg : fs'[g] with
            | some kk =>
              refine iteF ?_
              refine ⟨fs', ls ++ more, _, rfl, nx3, hfs', hls', bf', ⟨more, rfl⟩, hku', fun j hj g' hg' => ?_⟩
              by_cases e : j < i
              · exact hcl' j e g' hg'
              · have e2 : j = i := by omega
                subst e2
                rw [hg] at hg'
                cases hg'
                exact (bf'.mem g).mpr ⟨kk, by rw [List.getElem?_eq_getElem gl, hfg]⟩
            | none =>
              refine iteT ?_
              have hfn : fs'[g]? = some none := by rw [List.getElem?_eq_getElem gl, hfg]
              have hkuf : (fs'.map vO)[ls[k]]? = some (.int ku) := by rw [List.getElem?_map, hku']; rfl
              refine q_seq ?_
              refine ⟨.ref fa, rfl, .ref la, rfl, .int k, rfl, la, _, (k : Nat), .int (ls[k] : Nat), rfl, rfl, .inl (.inl hls'), atI_nat (nat_get hku2), fa, _, (ls[k] : Nat), .int ku, rfl, rfl, .inl (.inl hfs'), atI_nat hkuf, ku, 1, rfl, rfl, .ref fa, rfl, .int g, rfl, fa, _, (g : Nat), g, rfl, rfl, hfs', ?_, ?_⟩
              · unfold ixN
                rw [if_pos (by omega), if_pos (by simp; omega)]
                rfl
              have hs1 : (fs'.map vO).set g (V.int (ku + 1)) = (fs'.set g (some (ku + 1))).map vO := by rw [List.map_set]; rfl
              rw [hs1]
              have nx4 := nx3.mut (o := .lst ((fs'.set g (some (ku + 1))).map vO)) h0f gf
              have hls4 : (upd H3 fa (.lst ((fs'.set g (some (ku + 1))).map vO))) la = some (.lst ((ls ++ more).map fun (j : Nat) => V.int j)) := by rw [upd_ne (Ne.symm hfl)]; exact hls'
              have bf2 := bf'.step hpar hku' hadj hfn
              refine ⟨.ref la, rfl, .inl ⟨rfl, _, .inl (.inl hls4)⟩, .int g, rfl, la, _, .int g, rfl, rfl, hls4, by rw [List.length_map, sizeLine_eq]; have := bf'.le; omega, ?_⟩
              have nx5 := nx4.mut (o := .lst (((ls ++ more).map fun (j : Nat) => V.int j) ++ [V.int g])) h0l ‹G2 la = none›
              refine ⟨fs'.set g (some (ku + 1)), (ls ++ more) ++ [g], _, rfl, nx5, by rw [upd_ne hfl, upd_same], by rw [upd_same, List.map_append (l₁ := ls ++ more)]; rfl, bf2, ⟨more ++ [g], by rw [List.append_assoc]⟩, ?_, fun j hj g' hg' => ?_⟩
              · rw [List.getElem?_set_ne (fun e => by rw [e, hku'] at hfn; cases hfn)]
                exact hku'
              · by_cases e : j < i
                · exact List.mem_append_left _ (hcl' j e g' hg')
                · have e2 : j = i := by omega
                  subst e2
                  rw [hg] at hg'
                  cases hg'
                  exact List.mem_append_right _ (by simp)
        · rintro σ3 H3 ⟨fs', ls', y6, rfl, nx3, hfs', hls', bf', ⟨more, rfl⟩, hku', hcl'⟩
          refine ⟨_, rfl, _, _, rfl, rfl, ?_⟩
          refine hN (m - 1) _ G2 H3 (by omega) (Same.refl _) nx3.s ⟨fs', ls ++ more, k + 1, y6, by omega, rfl, nx3, gf, ‹G2 la = none›, dnv, hfs', hls', bf', by rw [List.length_append]; omega, fun i hi u hu' g hadj => ?_⟩
          by_cases e : i < k
          · rw [List.getElem?_append_left (by omega)] at hu'
            exact List.mem_append_left _ (hcl i e u hu' g hadj)
          · have e2 : i = k := by omega
            subst e2
            rw [List.getElem?_append_left hlt, hu] at hu'
            cases hu'
            obtain ⟨j, hj, hjg⟩ := List.getElem_of_mem (mem_nbr.mpr hadj)
            exact hcl' j (by rw [List.length_map, List.length_map]; exact hj) g (by rw [List.getElem?_eq_getElem hj, hjg])
      · rw [if_neg (by simp; omega)]
        have hkl : k = ls.length := by omega
        obtain ⟨ks, hk1, hk2, hk3⟩ := bf.all hw (fun u hu g hadj => by
          obtain ⟨i, hi, hiu⟩ := List.getElem_of_mem hu
          exact hcl i (by omega) u (by rw [List.getElem?_eq_getElem hi, hiu]) g hadj)
        rw [hk2, vO_some] at hfs
        refine ⟨.ref fa, rfl, ?_⟩
        have nf := Nxt.take nx.s hfs gf h0f nx
        exact q _ _ _ _ nf (hR par ks hpar hk1 hk3) (.lst (.inl (.inl upd_same)) (dpAll_ints ks))
    · rintro σ2 H2 Q1 Q2 hq ⟨x, hx, y, hy, z, n', e1, e2, i', j', e3, e4, b, e5, h⟩
      exact ⟨x, hx, y, hy, z, n', e1, e2, i', j', e3, e4, b, e5, hq _ _ h⟩
end
end TW
/-! TWY: equality of data. -/
namespace TW
open PySem PySem.Spec PyProof.Rows L2
/-- plain data of at most this depth -/
def Sh (k : Nat) (d : PyData) : Prop := d.canLay0 = true ∧ d.depth ≤ k
theorem Sh.shaped {k : Nat} {d : PyData} (h : Sh k d) (hk : k ≤ 64 := by decide) : SeqAt.shaped d = true := by
  unfold SeqAt.shaped
  rw [h.1, Bool.true_and]
  exact decide_eq_true (Nat.le_trans h.2 hk)
theorem sh_int {i : Int} : Sh 0 (.int i) := ⟨by rw [PyData.canLay0], by rw [PyData.depth]; exact Nat.le_refl _⟩
theorem sh_bool {i : Bool} : Sh 0 (.bool i) := ⟨by rw [PyData.canLay0], by rw [PyData.depth]; exact Nat.le_refl _⟩
theorem sh_non : Sh 0 .none := ⟨by rw [PyData.canLay0], by rw [PyData.depth]; exact Nat.le_refl _⟩
theorem sh_all {k : Nat} : ∀ {ds : List PyData}, (∀ d ∈ ds, Sh k d) → PyData.canLayAll0 ds = true ∧ PyData.depthAll ds ≤ k
  | [], _ => ⟨by rw [PyData.canLayAll0], by rw [PyData.depthAll]; exact Nat.zero_le _⟩
  | d :: ds, h => by
    have h1 := h d List.mem_cons_self
    have h2 := sh_all fun e he => h e (List.mem_cons_of_mem _ he)
    refine ⟨by rw [PyData.canLayAll0, h1.1, h2.1]; rfl, ?_⟩
    rw [PyData.depthAll]
    exact Nat.max_le.mpr ⟨h1.2, h2.2⟩
theorem sh_list {k : Nat} {ds : List PyData} (h : ∀ d ∈ ds, Sh k d) : Sh (k + 1) (.list ds) := by
  have := sh_all h
  exact ⟨by rw [PyData.canLay0]; exact this.1, by rw [PyData.depth]; exact Nat.succ_le_succ this.2⟩
theorem sh_tup {k : Nat} {ds : List PyData} (h : ∀ d ∈ ds, Sh k d) : Sh (k + 1) (.tuple ds) := by
  have := sh_all h
  exact ⟨by rw [PyData.canLay0]; exact this.1, by rw [PyData.depth]; exact Nat.succ_le_succ this.2⟩
theorem sh_mem {α : Type} {k : Nat} {f : α → PyData} {l : List α} (h : ∀ a, Sh k (f a)) : ∀ d ∈ l.map f, Sh k d := fun d hd => by
  obtain ⟨a, _, rfl⟩ := List.mem_map.mp hd
  exact h a
theorem sh_dL (xs : List Int) : Sh 1 (dL xs) := sh_list (sh_mem fun _ => sh_int)
theorem sh_dNs (xs : List Nat) : Sh 1 (dNs xs) := sh_list (sh_mem fun _ => sh_int)
theorem sh_dTs (xs : List Int) : Sh 1 (dTs xs) := sh_tup (sh_mem fun _ => sh_int)
theorem sh_dLs (xs : List (List Int)) : Sh 2 (dLs xs) := sh_list (sh_mem sh_dTs)
theorem sh_encH (h : Nat × Nat) : Sh 1 (encH h) := sh_tup (ds := [.int h.1, .int h.2]) fun d hd => by
  rcases List.mem_cons.mp hd with rfl | hd
  · exact sh_int
  · have : d = .int h.2 := by simpa using hd
    subst this; exact sh_int
theorem sh_pair (a b : Int) : Sh 1 (.tuple [.int a, .int b]) := sh_tup fun d hd => by
  rcases List.mem_cons.mp hd with rfl | hd
  · exact sh_int
  · have : d = .int b := by simpa using hd
    subst this; exact sh_int
theorem sh_nil : Sh 1 (.list []) := sh_list fun d h => by cases h
theorem sh_encHs (hs : List (Nat × Nat)) : Sh 2 (.list (hs.map encH)) := sh_list (sh_mem sh_encH)
/-! == -/
theorem eqv_int (i j : Int) : PyData.eqv (.int i) (.int j) = decide (i = j) := by rw [PyData.eqv]; exact Bool.beq_eq_decide_eq i j
theorem eqv_ints : ∀ xs ys : List Int, PyData.eqvAll (xs.map .int) (ys.map .int) = decide (xs = ys)
  | [], [] => by simp [PyData.eqvAll]
  | [], _ :: _ => by simp [PyData.eqvAll]
  | _ :: _, [] => by simp [PyData.eqvAll]
  | x :: xs, y :: ys => by
    rw [List.map_cons, List.map_cons, PyData.eqvAll, eqv_int, eqv_ints xs ys]
    by_cases h1 : x = y <;> by_cases h2 : xs = ys <;> simp [h1, h2]
theorem eqv_dTs (xs ys : List Int) : PyData.eqv (dTs xs) (dTs ys) = decide (xs = ys) := by rw [PyData.eqv]; exact eqv_ints xs ys
theorem eqv_nil (ds : List PyData) : PyData.eqv (.list ds) (.list []) = ds.isEmpty := by
  rw [PyData.eqv]
  cases ds <;> rw [PyData.eqvAll] <;> rfl
theorem eqv_pair (a b c d : Int) : PyData.eqv (.tuple [.int a, .int b]) (.tuple [.int c, .int d]) = decide (a = c ∧ b = d) := by
  have h := eqv_dTs [a, b] [c, d]
  rw [show dTs [a, b] = .tuple [.int a, .int b] from rfl, show dTs [c, d] = .tuple [.int c, .int d] from rfl] at h
  rw [h]
  simp
theorem any_dTs (x : List Int) (L : List (List Int)) : ((L.map dTs).any fun z => PyData.eqv z (dTs x)) = decide (x ∈ L) := by
  rw [List.any_map]
  rw [show (fun z => PyData.eqv z (dTs x)) ∘ dTs = fun y => decide (y = x) from funext fun y => eqv_dTs y x]
  induction L with
  | nil => simp
  | cons y L ih =>
    rw [List.any_cons, ih]
    by_cases h1 : y = x
    · simp [h1]
    · have h2 : ¬ x = y := fun e => h1 e.symm
      simp [h1, h2]
theorem any_none_dL (ks : List Int) : ((ks.map PyData.int).any fun z => PyData.eqv z .none) = false := by
  rw [List.any_map, List.any_eq_false]
  intro x _
  show ¬ (PyData.eqv (.int x) .none = true)
  rw [PyData.eqv]
  exact Bool.false_ne_true
end TW
/-! TWF4: a web's checks. -/
namespace TW
open PySem PySem.Spec PyProof.Rows L2
section
variable {P : Program} {w : World} {K : PySem.W.Frag} {mg : Str → Option Value} {base : Heap} {f : Addr} {fd : FuncData}
theorem getI {ks : List Int} {i : Nat} (h : i < ks.length) : atI (ks.map PyData.int) ((i : Nat) : Int) = some (.int (ks.getD i 0)) := by
  refine atI_nat ?_
  rw [List.getElem?_map, List.getD_eq_getElem?_getD, List.getElem?_eq_getElem h]
  rfl
theorem getIs {ks : List Int} {i : Nat} (h : i < ks.length) : atI ((ks.map PyData.int)) ((i : Nat) : Int) = some (.int (ks.getD i 0)) := getI h
/-- the only web: no error -/
def fNone : List PyData → (PyData → Prop) → Prop := fun ds R => ∃ n hs, ds = [dWeb n hs] ∧ WebOk n hs ∧ R .none
theorem ok_odd_hedge (B : Bl mg) (C_reach_of : Cal P w K mg base 2 "reach_of" p_reach_of (spD K fReach)) (F : Fun K "odd_hedge" "odd_hedge" s_odd_hedge f fd) : FnOk P w K mg base CX0 3 f fd p_odd_hedge (spD K fNone) := by
  refine fun_d F sc_odd_hedge (fun ds R h => ?_) fun cdv A outer s H E hr ds R h => ?_
  · obtain ⟨n, hs, rfl, _⟩ := h; rfl
  · obtain ⟨n, hs, rfl, hw, hR⟩ := h
    refine db_eq (d := .none) ?_ hR
    have hfew := hw.few
    refine db_set 1 sc_odd_hedge.nd (P := fun d => ∃ (par : Nat → Bool) (ks : List Int), Par hs par ∧ ks.length = n ∧ (∀ f, f < n → ks.getD f 0 % 2 = parI par 0 f) ∧ d = dL ks) (de_callC C_reach_of hr (by decide) (das_cons (de_var 0 rfl) (das_cons de_int das_nil)) ⟨n, hs, 0, rfl, hw, by have := hw.pos; omega, fun par ks h1 h2 h3 => ⟨par, ks, h1, h2, h3, rfl⟩⟩) ?_
    rintro _ ⟨par, ks, h1, h2, h3, rfl⟩
    refine db_asg (i := 2) (ps_lcF (own := [("hedge", 3)]) (L := hs) (enc := encH) (q := fun h => decide ((ks.getD h.1 0 - ks.getD h.2 0) % 2 = 0)) (f := encH) rfl sc_odd_hedge.nd rfl rfl (sw_true rfl rfl rfl (by decide +kernel)) (blkOk_by (by kernel_rfl)) (di_tup (de_ixT (de_var 0 rfl) de_int rfl)) rfl (fun _ _ _ _ _ => pg_name (i := 3) sc_odd_hedge.nd rfl (by first | exact Or.inl rfl | exact Or.inr rfl)) (fun _ _ => tgN 3) (by rw [sizeLine_eq]; omega)
      (fun _ _ _ _ _ a ha => (dt_eqI (de_mod (de_sub (de_ixL (de_var 1 rfl) (de_ixT (de_var 3 rfl) de_int rfl) (getI (by have := hw.rng a ha; omega))) (de_ixL (de_var 1 rfl) (de_ixT (de_var 3 rfl) de_int rfl) (getI (by have := hw.rng a ha; omega)))) de_int (by decide)) de_int)) (fun _ _ _ _ _ a ha hp => (de_var 3 rfl))) ?_
    have hnil : hs.filter (fun h => decide ((ks.getD h.1 0 - ks.getD h.2 0) % 2 = 0)) = [] := by
      rw [List.filter_eq_nil_iff]
      intro h hm e
      have e1 := of_decide_eq_true e
      have hl := hw.rng h hm
      have a1 := h3 h.1 (by omega)
      have a2 := h3 h.2 (by omega)
      have a3 := parI_sum (first := 0) (h1 h hm)
      omega
    rintro _ rfl
    rw [hnil]
    exact db_ret (de_if (dt_neD (hu64 hr) (de_var 2 rfl) (de_lst das_nil) sh_nil.shaped sh_nil.shaped) (fun h => by rw [eqv_nil] at h; cases h) fun h => de_non)
theorem ok_bar_of (B : Bl mg) (C_reach_of : Cal P w K mg base 2 "reach_of" p_reach_of (spD K fReach)) (C_odd_hedge : Cal P w K mg base 3 "odd_hedge" p_odd_hedge (spD K fNone)) (F : Fun K "bar_of" "bar_of" s_bar_of f fd) : FnOk P w K mg base CX0 4 f fd p_bar_of (spD K fNone) := by
  refine fun_d F sc_bar_of (fun ds R h => ?_) fun cdv A outer s H E hr ds R h => ?_
  · obtain ⟨n, hs, rfl, _⟩ := h; rfl
  · obtain ⟨n, hs, rfl, hw, hR⟩ := h
    refine db_eq (d := .none) ?_ hR
    refine db_set 1 sc_bar_of.nd (P := fun d => ∃ (ks : List Int), d = dL ks) (de_callC C_reach_of hr (by decide) (das_cons (de_var 0 rfl) (das_cons de_int das_nil)) ⟨n, hs, 0, rfl, hw, by have := hw.pos; omega, fun par ks h1 h2 h3 => ⟨ks, rfl⟩⟩) ?_
    rintro _ ⟨ks, rfl⟩
    refine db_ifFE (dt_in (hu65 hr) de_non (de_var 1 rfl) sh_non.shaped (sh_dL ks).shaped) (any_none_dL ks) ?_
    refine db_setE 3 sc_bar_of.nd (d := .none) (de_callC C_odd_hedge hr (by decide) (das_cons (de_var 0 rfl) das_nil) ⟨n, hs, rfl, hw, rfl⟩) ?_
    exact db_ret (de_if (dt_notN (de_var 3 rfl)) (fun h => by cases h) fun h => de_non)
theorem ok_need_web (B : Bl mg) (C_has_form : Cal P w K mg base 4 "has_form" p_has_form (spD K fHasForm)) (C_bar_of : Cal P w K mg base 4 "bar_of" p_bar_of (spD K fNone)) (F : Fun K "need_web" "need_web" s_need_web f fd) : FnOk P w K mg base CX0 5 f fd p_need_web (spD K fNone) := by
  refine fun_n F sc_need_web (fun ds R h => ?_) (fun ds R h => ?_) fun cdv A outer s H E hr ds R h => ?_
  · obtain ⟨n, hs, rfl, _⟩ := h; rfl
  · obtain ⟨n, hs, rfl, _, hR⟩ := h; exact hR
  · obtain ⟨n, hs, rfl, hw, hR⟩ := h
    exact dn_ifE (x := !true || false) (dt_w (dw_or (dt_not (dt_val (de_callC C_has_form hr (by decide) (das_cons (de_var 0 rfl) das_nil) ⟨n, hs, rfl, hw, rfl⟩))) fun _ => (dw_or1 (dt_notN (d := .none) (de_callC C_bar_of hr (by decide) (das_cons (de_var 0 rfl) das_nil) ⟨n, hs, rfl, hw, rfl⟩))))) rfl dn_nil
end
end TW
/-! TWH: blocks that go on, for loops that only store names, over data. -/
namespace TW
open PySem PySem.Spec PyProof.Rows L2
def tDn (K : PySem.W.Frag) (ρ : DEnv) (S : DEnv → Prop) : TS := fun D σ H => ∃ G, Same G H ∧ EnvD K G σ ρ ∧ ∀ σ' ρ' G' H', Nxt G H G' H' → S ρ' → EnvD K G' σ' ρ' → D.nx σ' H'
abbrev Dn (X : Cx) (sts : List Stmt) (ρ : DEnv) (S : DEnv → Prop) : Prop := PSs X sts (tDn X.K ρ S)
section
variable {X : Cx} {ρ : DEnv} {e c iter tg : Expr} {rest body orelse : List Stmt} {P R : PyData → Prop} {S : DEnv → Prop} {pos : Pos} {st : Stmt} {b : Bool} {g : TG}
theorem dk_nil (h : S ρ) : Dn X [] ρ S := pss_wk pss_nil fun D σ H ⟨G, s, en, q⟩ => q σ ρ G H (Nxt.refl s) h en
theorem dk_asg {i : Nat} (h : PS X st (tAsg (tD X.K ρ P) (gName i))) (hr : ∀ d, P d → Dn X rest (ρ.set i (some d)) S) : Dn X (st :: rest) ρ S := by
  refine pss_wk (pss_cons h (pss_ex hr)) ?_
  rintro D σ H ⟨G, s, en, q⟩
  refine ⟨G, s, en, fun v d G1 H1 n1 pd dp => ?_⟩
  exact ⟨d, pd, G1, n1.s, (en.mono n1.g).set dp, fun σ' ρ' G' H' n h en' => q σ' ρ' G' H' (n1.trans n) h en'⟩
theorem dk_set (i : Nat) {x : Str} {px : Pos} (hN : X.N.Nodup) (h : DeR X e ρ P) (hr : ∀ d, P d → Dn X rest (ρ.set i (some d)) S) (hi : X.N[i]? = some x := by rfl) (hx : Loc X.env.scope x := by first | exact Or.inl rfl | exact Or.inr rfl) (hf : X.fn x = true ∨ X.env.scope.names.lookup x = some .local := by first | exact .inl rfl | exact .inr rfl)
    (hs : swapsWithSole [.Name x px] e pos.line X.env = pure false := by rfl) (hw : swappedStores [.Name x px] e X.env = pure none := by rfl) (h1 : (assignEach [.Name x px] X.env).map (·.2) = [assign (.Name x px) X.env] := by rfl) : Dn X (.Assign [.Name x px] e pos :: rest) ρ S :=
  dk_asg (ps_asg h (pg_name hN hi hx hf) hs hw h1) hr
theorem dk_setE (i : Nat) {x : Str} {px : Pos} {d : PyData} (hN : X.N.Nodup) (h : De X e ρ d) (hr : Dn X rest (ρ.set i (some d)) S) (hi : X.N[i]? = some x := by rfl) (hx : Loc X.env.scope x := by first | exact Or.inl rfl | exact Or.inr rfl) (hf : X.fn x = true ∨ X.env.scope.names.lookup x = some .local := by first | exact .inl rfl | exact .inr rfl)
    (hs : swapsWithSole [.Name x px] e pos.line X.env = pure false := by rfl) (hw : swappedStores [.Name x px] e X.env = pure none := by rfl) (h1 : (assignEach [.Name x px] X.env).map (·.2) = [assign (.Name x px) X.env] := by rfl) : Dn X (.Assign [.Name x px] e pos :: rest) ρ S :=
  dk_set i hN h (fun d' e' => by subst e'; exact hr) hi hx hf hs hw h1
theorem dk_imp {S' : DEnv → Prop} {sts : List Stmt} (h : Dn X sts ρ S') (w : ∀ ρ', S' ρ' → S ρ') : Dn X sts ρ S := pss_wk h fun D σ H ⟨G, s, en, q⟩ => ⟨G, s, en, fun σ' ρ' G' H' n hS en' => q σ' ρ' G' H' n (w ρ' hS) en'⟩
/-- if c: a / else: b, then the rest -/
theorem dk_if {S1 : DEnv → Prop} (hc : Dt X c ρ b) (ha : b = true → Dn X body ρ S1) (hb : b = false → Dn X orelse ρ S1) (hr : ∀ ρ', S1 ρ' → Dn X rest ρ' S) : Dn X (.If c body orelse pos :: rest) ρ S := by
  cases b with
  | true =>
    refine pss_wk (pss_cons (ps_if hc (ha rfl) pss_never) (pss_ex hr)) ?_
    rintro D σ H ⟨G, s, en, q⟩
    refine ⟨G, s, en, fun G1 H1 n1 => iteT ?_⟩
    exact ⟨G1, n1.s, en.mono n1.g, fun σ2 ρ2 G2 H2 n2 h2 en2 => ⟨ρ2, h2, G2, n2.s, en2, fun σ' ρ' G' H' n h en' => q σ' ρ' G' H' ((n1.trans n2).trans n) h en'⟩⟩
  | false =>
    refine pss_wk (pss_cons (ps_if hc pss_never (hb rfl)) (pss_ex hr)) ?_
    rintro D σ H ⟨G, s, en, q⟩
    refine ⟨G, s, en, fun G1 H1 n1 => iteF ?_⟩
    exact ⟨G1, n1.s, en.mono n1.g, fun σ2 ρ2 G2 H2 n2 h2 en2 => ⟨ρ2, h2, G2, n2.s, en2, fun σ' ρ' G' H' n h en' => q σ' ρ' G' H' ((n1.trans n2).trans n) h en'⟩⟩
theorem db_if2 {S1 : DEnv → Prop} (hc : Dt X c ρ b) (ha : b = true → Dn X body ρ S1) (hb : b = false → Dn X orelse ρ S1) (hr : ∀ ρ', S1 ρ' → Db X rest ρ' R) : Db X (.If c body orelse pos :: rest) ρ R := by
  cases b with
  | true =>
    refine pss_wk (pss_cons (ps_if hc (ha rfl) pss_never) (pss_ex hr)) ?_
    rintro D σ H ⟨G, s, en, q⟩
    refine ⟨G, s, en, fun G1 H1 n1 => iteT ?_⟩
    exact ⟨G1, n1.s, en.mono n1.g, fun σ2 ρ2 G2 H2 n2 h2 en2 => ⟨ρ2, h2, G2, n2.s, en2, fun v d G' H' n pd dp => q v d G' H' ((n1.trans n2).trans n) pd dp⟩⟩
  | false =>
    refine pss_wk (pss_cons (ps_if hc pss_never (hb rfl)) (pss_ex hr)) ?_
    rintro D σ H ⟨G, s, en, q⟩
    refine ⟨G, s, en, fun G1 H1 n1 => iteF ?_⟩
    exact ⟨G1, n1.s, en.mono n1.g, fun σ2 ρ2 G2 H2 n2 h2 en2 => ⟨ρ2, h2, G2, n2.s, en2, fun v d G' H' n pd dp => q v d G' H' ((n1.trans n2).trans n) pd dp⟩⟩
/-- what a target makes of the names -/
def TgB (K : PySem.W.Frag) (g : TG) (d : PyData) (bd : DEnv → DEnv) : Prop := ∀ v τ G H Q ρ, Same G H → EnvD K G τ ρ → Dp K G v d → (∀ τ2, EnvD K G τ2 (bd ρ) → Q τ2 H) → g v τ H Q
theorem tb_name {K : PySem.W.Frag} {d : PyData} (i : Nat) : TgB K (gName i) d (fun ρ => ρ.set i (some d)) := fun v τ G H Q ρ s en dv q => q _ (en.set dv)
theorem tb_pair {K : PySem.W.Frag} {d e : PyData} (i j : Nat) : TgB K (gTup K 2 (gCons (gName i) (gCons (gName j) gNil))) (.tuple [d, e]) (fun ρ => (ρ.set i (some d)).set j (some e)) := fun v τ G H Q ρ s en dv q => by
  obtain ⟨a, xs, rfl, h1, h2⟩ := dp_tup_inv dv
  obtain ⟨x, y, rfl, dx, dy⟩ := dp2 h2
  exact ⟨a, [x, y], rfl, same_t s h1, rfl, x, [y], rfl, y, [], rfl, rfl, q _ ((en.set dx).set dy)⟩
theorem db_for {Pl : List PyData → Prop} {bd : PyData → DEnv → DEnv} (I : List PyData → Nat → DEnv → Prop) (hp : PassesOwn (model X.prog X.w) X.A X.env X.xe) (hc : X.calm = true) (hi : Di X tg iter ρ Pl) (hg : PG X tg g)
    (hb : ∀ ds i d ρ1, Pl ds → ds[i]? = some d → I ds i ρ1 → TgB X.K g d (bd d) ∧ Dn X body (bd d ρ1) (I ds (i + 1))) (h0 : ∀ ds, Pl ds → I ds 0 ρ) (hr : ∀ ds ρ1, Pl ds → I ds ds.length ρ1 → Db X rest ρ1 R)
    (hs : ∀ x, foldedSetIterable iter X.env x = pure x := by intro _; rfl) : Db X (.For tg iter body [] pos :: rest) ρ R := by
  have hbody : PSs X body (fun D σ H => ∃ (z : List PyData × Nat × PyData × DEnv), (Pl z.1 ∧ z.1[z.2.1]? = some z.2.2.1 ∧ I z.1 z.2.1 z.2.2.2) ∧ tDn X.K (bd z.2.2.1 z.2.2.2) (I z.1 (z.2.1 + 1)) D σ H) := pss_ex fun z hz => (hb z.1 z.2.1 z.2.2.1 z.2.2.2 hz.1 hz.2.1 hz.2.2).2
  have hrest : PSs X rest (fun D σ H => ∃ (z : List PyData × DEnv), (Pl z.1 ∧ I z.1 z.1.length z.2) ∧ tDb X.K z.2 R D σ H) := pss_ex fun z hz => hr z.1 z.2 hz.1 hz.2
  refine pss_wk (pss_cons (ps_for hp hc hi hg hbody hs) hrest) ?_
  rintro D σ H ⟨G, s, en, q⟩
  refine q_seq (t_for s en (fun ds i σ2 G2 H2 => ∃ ρ1, I ds i ρ1 ∧ EnvD X.K G2 σ2 ρ1 ∧ Nxt G H G2 H2) ?_ ?_ ?_ ?_)
  · exact fun ds G' H' pd n => ⟨ρ, h0 ds pd, en.mono n.g, n⟩
  · exact fun ds i σ2 G2 H2 G3 H3 pd ⟨ρ1, h1, e1, n1⟩ n => ⟨ρ1, h1, e1.mono n.g, n1.trans n⟩
  · rintro ds i d x σ2 G2 H2 pd hd ⟨ρ1, h1, e1, n1⟩ g2 s2 dx N hN
    obtain ⟨tgb, _⟩ := hb ds i d ρ1 pd hd h1
    refine tgb x σ2 G2 H2 _ ρ1 s2 e1 dx fun τ2 e2 => ⟨(ds, i, d, ρ1), ⟨pd, hd, h1⟩, G2, s2, e2, fun σ' ρ' G' H' n h en' => ?_⟩
    exact hN σ' G' H' n.g n.s ⟨ρ', h, en', n1.trans n⟩
  · rintro ds σ2 G2 H2 pd ⟨ρ1, h1, e1, n1⟩ g2 s2
    exact ⟨(ds, ρ1), ⟨pd, h1⟩, G2, s2, e1, fun v d G' H' n pd dp => q v d G' H' (n1.trans n) pd dp⟩
theorem dk_for {Pl : List PyData → Prop} {bd : PyData → DEnv → DEnv} (I : List PyData → Nat → DEnv → Prop) (hp : PassesOwn (model X.prog X.w) X.A X.env X.xe) (hc : X.calm = true) (hi : Di X tg iter ρ Pl) (hg : PG X tg g)
    (hb : ∀ ds i d ρ1, Pl ds → ds[i]? = some d → I ds i ρ1 → TgB X.K g d (bd d) ∧ Dn X body (bd d ρ1) (I ds (i + 1))) (h0 : ∀ ds, Pl ds → I ds 0 ρ) (hr : ∀ ds ρ1, Pl ds → I ds ds.length ρ1 → Dn X rest ρ1 S)
    (hs : ∀ x, foldedSetIterable iter X.env x = pure x := by intro _; rfl) : Dn X (.For tg iter body [] pos :: rest) ρ S := by
  have hbody : PSs X body (fun D σ H => ∃ (z : List PyData × Nat × PyData × DEnv), (Pl z.1 ∧ z.1[z.2.1]? = some z.2.2.1 ∧ I z.1 z.2.1 z.2.2.2) ∧ tDn X.K (bd z.2.2.1 z.2.2.2) (I z.1 (z.2.1 + 1)) D σ H) := pss_ex fun z hz => (hb z.1 z.2.1 z.2.2.1 z.2.2.2 hz.1 hz.2.1 hz.2.2).2
  have hrest : PSs X rest (fun D σ H => ∃ (z : List PyData × DEnv), (Pl z.1 ∧ I z.1 z.1.length z.2) ∧ tDn X.K z.2 S D σ H) := pss_ex fun z hz => hr z.1 z.2 hz.1 hz.2
  refine pss_wk (pss_cons (ps_for hp hc hi hg hbody hs) hrest) ?_
  rintro D σ H ⟨G, s, en, q⟩
  refine q_seq (t_for s en (fun ds i σ2 G2 H2 => ∃ ρ1, I ds i ρ1 ∧ EnvD X.K G2 σ2 ρ1 ∧ Nxt G H G2 H2) ?_ ?_ ?_ ?_)
  · exact fun ds G' H' pd n => ⟨ρ, h0 ds pd, en.mono n.g, n⟩
  · exact fun ds i σ2 G2 H2 G3 H3 pd ⟨ρ1, h1, e1, n1⟩ n => ⟨ρ1, h1, e1.mono n.g, n1.trans n⟩
  · rintro ds i d x σ2 G2 H2 pd hd ⟨ρ1, h1, e1, n1⟩ g2 s2 dx N hN
    obtain ⟨tgb, _⟩ := hb ds i d ρ1 pd hd h1
    refine tgb x σ2 G2 H2 _ ρ1 s2 e1 dx fun τ2 e2 => ⟨(ds, i, d, ρ1), ⟨pd, hd, h1⟩, G2, s2, e2, fun σ' ρ' G' H' n h en' => ?_⟩
    exact hN σ' G' H' n.g n.s ⟨ρ', h, en', n1.trans n⟩
  · rintro ds σ2 G2 H2 pd ⟨ρ1, h1, e1, n1⟩ g2 s2
    exact ⟨(ds, ρ1), ⟨pd, h1⟩, G2, s2, e1, fun σ' ρ' G' H' n h en' => q σ' ρ' G' H' (n1.trans n) h en'⟩
end
end TW
/-! TWM2: what lies between, worths: what the defs are to answer. -/
namespace TW
def Two (n : Nat) (hs : List (Nat × Nat)) (x y : List Int) : Prop := WebOk n hs ∧ Lay n hs x ∧ Lay n hs y ∧ (x.getD 0 0 - y.getD 0 0) % 2 = 0
def Bnd (n : Nat) (hs : List (Nat × Nat)) (x y : List Int) : Prop := Two n hs x y ∧ ∀ p ∈ x.zip y, p.1 ≤ p.2
structure Btw (n : Nat) (hs : List (Nat × Nat)) (x y z : List Int) : Prop where
  lay : Lay n hs z
  par : (z.getD 0 0 - x.getD 0 0) % 2 = 0
  btw : ∀ f, f < n → x.getD f 0 ≤ z.getD f 0 ∧ z.getD f 0 ≤ y.getD f 0
structure IsAll (n : Nat) (hs : List (Nat × Nat)) (x y : List Int) (L : List (List Int)) : Prop where
  nd : L.Nodup
  all : ∀ z, z ∈ L ↔ Btw n hs x y z
def Few (n : Nat) (hs : List (Nat × Nat)) (x y : List Int) : Prop := ∀ L : List (List Int), L.Nodup → (∀ z ∈ L, Btw n hs x y z) → L.length ≤ 500
def Rng (n : Nat) (hs : List (Nat × Nat)) (x y : List Int) : Prop := Bnd n hs x y ∧ Few n hs x y
structure WOk (n : Nat) (w : List Int) : Prop where
  len : w.length = n
  bnd : ∀ v ∈ w, -1000000 ≤ v ∧ v ≤ 1000000
def wo (z w : List Int) : Int := ((z.zip w).map fun p => p.1 * p.2).sum
structure IsBest (n : Nat) (hs : List (Nat × Nat)) (x y w : List Int) (m : Int) : Prop where
  at_ : ∃ z, Btw n hs x y z ∧ wo z w = m
  top : ∀ z, Btw n hs x y z → wo z w ≤ m
/-- the best ones, all of them -/
structure IsTold (n : Nat) (hs : List (Nat × Nat)) (x y w : List Int) (m : Int) (T : List (List Int)) : Prop where
  nd : T.Nodup
  all : ∀ z, z ∈ T ↔ Btw n hs x y z ∧ wo z w = m
/-- field by field the least, the greatest of some -/
def Least (n : Nat) (T : List (List Int)) (z : List Int) : Prop := z.length = n ∧ ∀ f, f < n → (∃ b, b ∈ T ∧ b.getD f 0 = z.getD f 0) ∧ ∀ b, b ∈ T → z.getD f 0 ≤ b.getD f 0
def Most (n : Nat) (T : List (List Int)) (z : List Int) : Prop := z.length = n ∧ ∀ f, f < n → (∃ b, b ∈ T ∧ b.getD f 0 = z.getD f 0) ∧ ∀ b, b ∈ T → b.getD f 0 ≤ z.getD f 0
/-- worths by how many have them, the worths rising -/
structure Tally (L : List (List Int)) (w : List Int) (its : List (Int × Int)) : Prop where
  srt : its.Pairwise fun a b => a.1 < b.1
  has : ∀ z, z ∈ L → ∃ b, (wo z w, b) ∈ its
  of : ∀ a b, (a, b) ∈ its → (∃ z, z ∈ L ∧ wo z w = a) ∧ b = ((L.filter fun z => decide (wo z w = a)).length : Int)
  sum : (its.map (·.2)).sum = (L.length : Int)
def inB (x y v : List Int) : Bool := ((x.zip y).zip v).all fun p => decide (p.1.1 ≤ p.2) && decide (p.2 ≤ p.1.2)
theorem getD_eq_of_get {l : List Int} {f : Nat} {a : Int} (h : l[f]? = some a) : l.getD f 0 = a := by rw [List.getD_eq_getElem?_getD, h]; rfl
theorem zip_all {n : Nat} {x y : List Int} (hx : x.length = n) (hy : y.length = n) {Q : Int → Int → Prop} : (∀ p ∈ x.zip y, Q p.1 p.2) ↔ ∀ f, f < n → Q (x.getD f 0) (y.getD f 0) := by
  constructor
  · intro h f hf
    have e1 := getD_at (x := x) (f := f) (by omega)
    have e2 := getD_at (x := y) (f := f) (by omega)
    exact h (x.getD f 0, y.getD f 0) (List.mem_of_getElem? ((List.getElem?_zip_eq_some (z := (x.getD f 0, y.getD f 0))).mpr ⟨e1, e2⟩))
  · intro h p hp
    obtain ⟨i, hi, e⟩ := List.getElem_of_mem hp
    have hi2 := hi
    rw [List.length_zip] at hi2
    have e2 : (x.zip y)[i]? = some p := by rw [List.getElem?_eq_getElem hi, e]
    have ⟨q1, q2⟩ := List.getElem?_zip_eq_some.mp e2
    have := h i (by omega)
    rwa [getD_eq_of_get q1, getD_eq_of_get q2] at this
theorem inB_iff {n : Nat} {x y v : List Int} (hx : x.length = n) (hy : y.length = n) (hv : v.length = n) : inB x y v = true ↔ ∀ f, f < n → x.getD f 0 ≤ v.getD f 0 ∧ v.getD f 0 ≤ y.getD f 0 := by
  unfold inB
  rw [List.all_eq_true]
  constructor
  · intro h f hf
    have e1 := getD_at (x := x) (f := f) (by omega)
    have e2 := getD_at (x := y) (f := f) (by omega)
    have e3 := getD_at (x := v) (f := f) (by omega)
    have := h ((x.getD f 0, y.getD f 0), v.getD f 0) (List.mem_of_getElem? (List.getElem?_zip_eq_some.mpr ⟨List.getElem?_zip_eq_some.mpr ⟨e1, e2⟩, e3⟩))
    simpa using this
  · intro h p hp
    obtain ⟨i, hi, e⟩ := List.getElem_of_mem hp
    have hi2 := hi
    rw [List.length_zip, List.length_zip] at hi2
    have e2 : ((x.zip y).zip v)[i]? = some p := by rw [List.getElem?_eq_getElem hi, e]
    have ⟨q1, q2⟩ := List.getElem?_zip_eq_some.mp e2
    have ⟨q3, q4⟩ := List.getElem?_zip_eq_some.mp q1
    have := h i (by omega)
    rw [getD_eq_of_get q3, getD_eq_of_get q4, getD_eq_of_get q2] at this
    simpa using this
theorem bnd_iff {n : Nat} {hs : List (Nat × Nat)} {x y : List Int} (h : Two n hs x y) : (∀ p ∈ x.zip y, p.1 ≤ p.2) ↔ ∀ f, f < n → x.getD f 0 ≤ y.getD f 0 := zip_all (Q := fun a b => a ≤ b) h.2.1.len h.2.2.1.len
theorem IsAll.perm {n : Nat} {hs : List (Nat × Nat)} {x y : List Int} {L M : List (List Int)} (a : IsAll n hs x y L) (b : IsAll n hs x y M) : L.length = M.length :=
  Nat.le_antisymm (nodup_sub_len a.nd fun z hz => (b.all z).mpr ((a.all z).mp hz)) (nodup_sub_len b.nd fun z hz => (a.all z).mpr ((b.all z).mp hz))
theorem IsBest.uniq {n : Nat} {hs : List (Nat × Nat)} {x y w : List Int} {m k : Int} (a : IsBest n hs x y w m) (b : IsBest n hs x y w k) : m = k := by
  obtain ⟨z, hz, e⟩ := a.at_
  obtain ⟨v, hv, e2⟩ := b.at_
  have := a.top v hv
  have := b.top z hz
  omega
theorem IsAll.told {n : Nat} {hs : List (Nat × Nat)} {x y w : List Int} {m : Int} {L : List (List Int)} (a : IsAll n hs x y L) : IsTold n hs x y w m (L.filter fun z => decide (wo z w = m)) :=
  ⟨a.nd.sublist List.filter_sublist, fun z => by rw [List.mem_filter, a.all]; simp⟩
theorem Bnd.floor {n : Nat} {hs : List (Nat × Nat)} {x y : List Int} (h : Bnd n hs x y) : Btw n hs x y x :=
  ⟨h.1.2.1, by rw [Int.sub_self]; rfl, fun f hf => ⟨Int.le_refl _, (bnd_iff h.1).mp h.2 f hf⟩⟩
theorem Bnd.roof {n : Nat} {hs : List (Nat × Nat)} {x y : List Int} (h : Bnd n hs x y) : Btw n hs x y y :=
  ⟨h.1.2.2.1, by have := h.1.2.2.2; omega, fun f hf => ⟨(bnd_iff h.1).mp h.2 f hf, Int.le_refl _⟩⟩
end TW
/-! TWX2: lists joined; comprehensions over a list that is told by a property. -/
namespace TW
open PySem PySem.Spec PyProof.Rows L2
section
variable {prog : Program} {w : World} {A : Around} {E : Value → Shared → Prop} {s : Shared}
theorem cat_plain {l b : Addr} {vs ws : List Value} {Q : Value → Shared → Prop} (hl : PlainL s.heap l vs.toArray) (hb : PlainL s.heap b ws.toArray)
    (h : Q (.ref s.heap.objs.size) { s with heap := s.heap.push { cls := .type "list", data := .seq (vs ++ ws).toArray } })
    (hsz : vs.length + ws.length ≤ sizeLine) : wpAny (model prog w) A (binaryOp .Add (.ref l) (.ref b)) Q E s := by
  obtain ⟨⟨cls, dd, data, sl⟩, n, ho, hc, hdi, hd⟩ := hl
  obtain ⟨⟨cls2, dd2, data2, sl2⟩, n2, ho2, hc2, hdi2, hd2⟩ := hb
  simp only at hc hd hc2 hd2 hdi hdi2
  subst hc hd hc2 hd2
  have e : vs.toArray ++ ws.toArray = (vs ++ ws).toArray := by simp
  refine concat_meets ⟨_, ho, rfl⟩ ⟨_, ho2, rfl⟩ PySem.noFill_list_add PySem.seq_list_add PySem.F.slot_list_add PySem.F.entry_list_add (PySem.F.args_list_add_2 _ _) (list_addW l b vs.toArray ws.toArray n n2 dd dd2 sl sl2 (by simpa using hsz)) ⟨ho, ho2, ?_⟩
  rw [e]
  exact h
end
def rCatL (K : PySem.W.Frag) : R2 := fun x y H Q => ∃ l b xs zs, x = .ref l ∧ y = .ref b ∧ SqL K H l xs ∧ SqL K H b zs ∧ xs.length + zs.length ≤ sizeLine ∧ ∀ p, H p = none → Q (.ref p) (upd H p (.lst (xs ++ zs)))
section
variable {X : Cx}
theorem op_catL : OpR X (binaryOp .Add) (rCatL X.K) := by
  intro pins s σ H x y v u Q I rx ry h
  obtain ⟨l, b, xs, zs, rfl, rfl, hH, hB, hz, q⟩ := h
  cases rx
  cases ry
  obtain ⟨its, r, hl, z1⟩ := I.list hH
  obtain ⟨its2, r2, hl2, z2⟩ := I.list hB
  refine cat_plain hl hl2 ?_ (by rw [← r.length, ← r2.length]; exact hz)
  exact ⟨.ref _, _, I.lnew (t' := s.toks) (r.append r2) (by rw [List.length_append]; omega), rfl, q _ I.fresh⟩
variable {ρ : DEnv} {a b e iter elt : Expr} {pos p : Pos}
theorem de_catL {ds es : List PyData} (ha : De X a ρ (.list ds)) (hb : De X b ρ (.list es)) (hz : ds.length + es.length ≤ sizeLine) : De X (.BinOp a .Add b pos) ρ (.list (ds ++ es)) := by
  refine de_op op_catL ?_ ha hb
  rintro x y _ _ G H rfl rfl s hx hy k q
  obtain ⟨t, xs, rfl, h1, h2⟩ := dp_lst_inv hx
  obtain ⟨u, ys, rfl, h3, h4⟩ := dp_lst_inv hy
  refine ⟨t, u, xs, ys, rfl, rfl, s.seq h1, s.seq h3, by rw [dpAll_len h2, dpAll_len h4]; exact hz, fun p hp => ?_⟩
  have n := Nxt.new (o := .lst (xs ++ ys)) s hp
  exact q _ _ _ _ n rfl (.lst (.inl (.inl upd_same)) (dpAll_app (dpAll_mono n.g h2) (dpAll_mono n.g h4)))
variable {tg : Expr} {scope : Scope} {own : List (Str × Nat)} {α : Type} {P : List α → Prop} {A : α → Prop} {enc f : α → PyData} {ρof : α → DEnv} {g : TG}
theorem de_lcP (hc : X.calm = true) (hN : X.N.Nodup) (ok : BlkOk X.N X.env.scope scope own) (hi : Di X tg iter ρ (fun ds => ∃ L, P L ∧ ds = L.map enc)) (hgP : PGb X scope tg g)
    (hg : ∀ a, A a → TgD X.K g (wipeD ρ (own.map (·.2))) (own.map (·.2)) (enc a) (ρof a)) (hA : ∀ L, P L → ∀ a ∈ L, A a) (hz : ∀ L, P L → L.length < sizeLine)
    (he : ∀ (s : Shared) (H : Hp) (C : Addr) (cl : List (Str × Addr)) (fp : List Addr) (a : α), A a → De (X.blk s H scope (compEnvC scope cl C X.env) fp) elt (ρof a) (f a))
    (hs : ∀ x, foldedSetIterable iter X.env x = pure x := by intro _; rfl) : DeR X (.ListComp elt [⟨tg, iter, [], 0⟩] scope pos) ρ (fun d => ∃ L, P L ∧ d = .list (L.map f)) :=
  de_lc (p := fun _ => true) hc hN ok hi hgP hg hA hz (fun L pL => ⟨L, pL, by rw [List.filter_eq_self.mpr fun _ _ => rfl]⟩) (fun _ _ _ _ _ _ _ => pts_nilD) (fun s H C cl fp a ha _ => he s H C cl fp a ha) hs
theorem di_listP {tg : Expr} {P : List α → Prop} (h : DeR X e ρ (fun d => ∃ L, P L ∧ d = .list (L.map enc))) : Di X tg e ρ (fun ds => ∃ L, P L ∧ ds = L.map enc) := di_list (de_imp h fun _ ⟨L, pL, e⟩ => ⟨_, ⟨L, pL, rfl⟩, e⟩)
end
end TW
/-! TWM3: deeds; all that lies between is reached. -/
namespace TW
def deeds (n : Nat) (hs : List (Nat × Nat)) (x y z : List Int) : List (Nat × Int) := (((lows n hs z).filter fun f => decide (z.getD f 0 + 2 ≤ y.getD f 0)).map fun f => (f, 2)) ++ (((highs n hs z).filter fun f => decide (x.getD f 0 ≤ z.getD f 0 - 2)).map fun f => (f, -2))
section
variable {n : Nat} {hs : List (Nat × Nat)} {x y z : List Int} {f g : Nat} {b : Int}
theorem chg_len : (chg z f b).length = z.length := by unfold chg; rw [List.length_set]
theorem chg_same (h : f < z.length) : (chg z f b).getD f 0 = z.getD f 0 + b := by
  unfold chg
  rw [List.getD_eq_getElem?_getD, List.getElem?_set_self h]; rfl
theorem chg_other (h : f ≠ g) : (chg z f b).getD g 0 = z.getD g 0 := by
  unfold chg
  rw [List.getD_eq_getElem?_getD, List.getElem?_set_ne h, ← List.getD_eq_getElem?_getD]
theorem ext_getD {u v : List Int} (hl : u.length = v.length) (h : ∀ f, f < u.length → u.getD f 0 = v.getD f 0) : u = v := by
  apply List.ext_getElem?
  intro i
  by_cases q : i < u.length
  · rw [getD_at q, getD_at (x := v) (by omega), h i q]
  · rw [List.getElem?_eq_none (by omega), List.getElem?_eq_none (by omega)]
theorem lay_bnd (L : Lay n hs z) (h : f < n) : -1000000 ≤ z.getD f 0 ∧ z.getD f 0 ≤ 1000000 := L.bnd _ (List.mem_of_getElem? (getD_at (by rw [L.len]; exact h)))
theorem lay_of (hl : z.length = n) (hb : ∀ f, f < n → -1000000 ≤ z.getD f 0 ∧ z.getD f 0 ≤ 1000000) (hs' : ∀ h ∈ hs, (z.getD h.1 0 - z.getD h.2 0).natAbs = 1) : Lay n hs z := by
  refine ⟨hl, fun h hm => ?_, hs'⟩
  obtain ⟨i, hi, e⟩ := List.getElem_of_mem hm
  have := hb i (by omega)
  rwa [getD_eq_of_get (by rw [List.getElem?_eq_getElem hi, e])] at this
theorem mem_lows : f ∈ lows n hs z ↔ f < n ∧ ∀ g, Adj hs f g → z.getD f 0 < z.getD g 0 := by
  unfold lows
  rw [List.mem_filter, List.mem_range, List.all_eq_true]
  exact ⟨fun h => ⟨h.1, fun g hg => of_decide_eq_true (h.2 g (mem_nbr.mpr hg))⟩, fun h => ⟨h.1, fun g hg => decide_eq_true (h.2 g (mem_nbr.mp hg))⟩⟩
theorem mem_highs : f ∈ highs n hs z ↔ f < n ∧ ∀ g, Adj hs f g → z.getD g 0 < z.getD f 0 := by
  unfold highs
  rw [List.mem_filter, List.mem_range, List.all_eq_true]
  exact ⟨fun h => ⟨h.1, fun g hg => of_decide_eq_true (h.2 g (mem_nbr.mpr hg))⟩, fun h => ⟨h.1, fun g hg => decide_eq_true (h.2 g (mem_nbr.mp hg))⟩⟩
theorem WebOk.ne (W : WebOk n hs) {a b : Nat} (h : Adj hs a b) : a ≠ b := by
  rcases h with h | h <;> have := W.rng _ h <;> simp at this <;> omega
theorem chg_up (W : WebOk n hs) (L : Lay n hs z) (hf : f ∈ lows n hs z) : ∀ h ∈ hs, ((chg z f 2).getD h.1 0 - (chg z f 2).getD h.2 0).natAbs = 1 := by
  obtain ⟨h1, h2⟩ := mem_lows.mp hf
  intro h hm
  have st := L.step h hm
  have ne := W.ne (a := h.1) (b := h.2) (.inl hm)
  have fl : f < z.length := by rw [L.len]; exact h1
  by_cases e1 : f = h.1
  · rw [← e1] at st ne ⊢
    have := h2 h.2 (.inl (by rw [e1]; exact hm))
    rw [chg_same fl, chg_other ne]
    omega
  · by_cases e2 : f = h.2
    · rw [← e2] at st ne ⊢
      have := h2 h.1 (.inr (by rw [e2]; exact hm))
      rw [chg_same fl, chg_other (fun e => ne e.symm)]
      omega
    · rw [chg_other e1, chg_other e2]; exact st
theorem chg_down (W : WebOk n hs) (L : Lay n hs z) (hf : f ∈ highs n hs z) : ∀ h ∈ hs, ((chg z f (-2)).getD h.1 0 - (chg z f (-2)).getD h.2 0).natAbs = 1 := by
  obtain ⟨h1, h2⟩ := mem_highs.mp hf
  intro h hm
  have st := L.step h hm
  have ne := W.ne (a := h.1) (b := h.2) (.inl hm)
  have fl : f < z.length := by rw [L.len]; exact h1
  by_cases e1 : f = h.1
  · rw [← e1] at st ne ⊢
    have := h2 h.2 (.inl (by rw [e1]; exact hm))
    rw [chg_same fl, chg_other ne]
    omega
  · by_cases e2 : f = h.2
    · rw [← e2] at st ne ⊢
      have := h2 h.1 (.inr (by rw [e2]; exact hm))
      rw [chg_same fl, chg_other (fun e => ne e.symm)]
      omega
    · rw [chg_other e1, chg_other e2]; exact st
theorem mem_deeds {p : Nat × Int} : p ∈ deeds n hs x y z ↔ (p.2 = 2 ∧ p.1 ∈ lows n hs z ∧ z.getD p.1 0 + 2 ≤ y.getD p.1 0) ∨ (p.2 = -2 ∧ p.1 ∈ highs n hs z ∧ x.getD p.1 0 ≤ z.getD p.1 0 - 2) := by
  unfold deeds
  rw [List.mem_append, List.mem_map, List.mem_map]
  obtain ⟨p1, p2⟩ := p
  constructor
  · rintro (⟨f, hf, e⟩ | ⟨f, hf, e⟩)
    · cases e
      have := List.mem_filter.mp hf
      exact .inl ⟨rfl, this.1, of_decide_eq_true this.2⟩
    · cases e
      have := List.mem_filter.mp hf
      exact .inr ⟨rfl, this.1, of_decide_eq_true this.2⟩
  · rintro (⟨e, h1, h2⟩ | ⟨e, h1, h2⟩)
    · refine .inl ⟨p1, List.mem_filter.mpr ⟨h1, decide_eq_true h2⟩, ?_⟩
      simp at e; rw [e]
    · refine .inr ⟨p1, List.mem_filter.mpr ⟨h1, decide_eq_true h2⟩, ?_⟩
      simp at e; rw [e]
theorem deed_lt {p : Nat × Int} (h : p ∈ deeds n hs x y z) : p.1 < n := by
  rcases mem_deeds.mp h with ⟨_, h, _⟩ | ⟨_, h, _⟩
  · exact (mem_lows.mp h).1
  · exact (mem_highs.mp h).1
/-- a deed leads to what lies between -/
theorem deed_btw (B : Bnd n hs x y) (Z : Btw n hs x y z) {p : Nat × Int} (h : p ∈ deeds n hs x y z) : Btw n hs x y (chg z p.1 p.2) := by
  have W := B.1.1
  have hl := Z.lay.len
  have lx := fun f h => lay_bnd (f := f) B.1.2.1 h
  have ly := fun f h => lay_bnd (f := f) B.1.2.2.1 h
  have hp := deed_lt h
  have pl : p.1 < z.length := by omega
  have key : ∀ f, f < n → x.getD f 0 ≤ (chg z p.1 p.2).getD f 0 ∧ (chg z p.1 p.2).getD f 0 ≤ y.getD f 0 := fun f hf => by
    have b := Z.btw f hf
    by_cases e : p.1 = f
    · rw [← e] at b ⊢
      rw [chg_same pl]
      rcases mem_deeds.mp h with ⟨e2, _, h2⟩ | ⟨e2, _, h2⟩ <;> rw [e2] <;> omega
    · rw [chg_other e]; exact b
  have bn : ∀ f, f < n → -1000000 ≤ (chg z p.1 p.2).getD f 0 ∧ (chg z p.1 p.2).getD f 0 ≤ 1000000 := fun f hf => by
    have := key f hf; have := lx f hf; have := ly f hf; omega
  refine ⟨lay_of (by rw [chg_len]; exact hl) bn ?_, ?_, key⟩
  · rcases mem_deeds.mp h with ⟨e2, h1, h2⟩ | ⟨e2, h1, h2⟩ <;> rw [e2]
    · exact chg_up W Z.lay h1
    · exact chg_down W Z.lay h1
  · have := Z.par
    by_cases e : p.1 = 0
    · rw [e] at pl ⊢
      rw [chg_same pl]
      rcases mem_deeds.mp h with ⟨e2, _, _⟩ | ⟨e2, _, _⟩ <;> rw [e2] <;> omega
    · rw [chg_other e]; exact this
/-- parity everywhere -/
theorem par_all (W : WebOk n hs) (X : Lay n hs x) (Z : Lay n hs z) (h0 : (z.getD 0 0 - x.getD 0 0) % 2 = 0) : ∀ f, f < n → (z.getD f 0 - x.getD f 0) % 2 = 0 :=
  W.con (fun f => (z.getD f 0 - x.getD f 0) % 2 = 0) (fun h hm => by
    have a := X.step h hm
    have b := Z.step h hm
    constructor <;> intro e <;> omega) h0
def gap (n : Nat) (x z : List Int) : Nat := ((List.range n).map fun f => (z.getD f 0 - x.getD f 0).natAbs).sum
theorem sum_lt {α : Type} {l : List α} {u v : α → Nat} (h : ∀ a ∈ l, u a ≤ v a) {a : α} (ha : a ∈ l) (hl : u a < v a) : (l.map u).sum < (l.map v).sum := by
  induction l with
  | nil => cases ha
  | cons b l ih =>
    rw [List.map_cons, List.map_cons, List.sum_cons, List.sum_cons]
    have hb := h b List.mem_cons_self
    have le : (l.map u).sum ≤ (l.map v).sum := by
      have hh := fun c hc => h c (List.mem_cons_of_mem _ hc)
      clear ih ha h
      induction l with
      | nil => exact Nat.le_refl _
      | cons c l ih2 =>
        rw [List.map_cons, List.map_cons, List.sum_cons, List.sum_cons]
        have := hh c List.mem_cons_self
        have := ih2 fun d hd => hh d (List.mem_cons_of_mem _ hd)
        omega
    rcases List.mem_cons.mp ha with rfl | ha
    · omega
    · have := ih (fun c hc => h c (List.mem_cons_of_mem _ hc)) ha
      omega
/-- a greatest one of some -/
theorem ex_max (n : Nat) (q : Nat → Bool) (v : Nat → Int) (h : ∃ f, f < n ∧ q f = true) : ∃ f, f < n ∧ q f = true ∧ ∀ g, g < n → q g = true → v g ≤ v f := by
  induction n with
  | zero => obtain ⟨f, hf, _⟩ := h; omega
  | succ n ih =>
    by_cases e : ∃ f, f < n ∧ q f = true
    · obtain ⟨f, hf, hq, hm⟩ := ih e
      by_cases c : q n = true ∧ v f < v n
      · refine ⟨n, by omega, c.1, fun g hg hqg => ?_⟩
        by_cases eg : g = n
        · subst eg; exact Int.le_refl _
        · have := hm g (by omega) hqg; omega
      · refine ⟨f, by omega, hq, fun g hg hqg => ?_⟩
        by_cases eg : g = n
        · subst eg
          rcases Int.lt_or_le (v f) (v g) with l | l
          · exact absurd ⟨hqg, l⟩ c
          · exact l
        · exact hm g (by omega) hqg
    · obtain ⟨f, hf, hq⟩ := h
      have ef : f = n := by
        rcases Nat.lt_or_ge f n with l | l
        · exact absurd ⟨f, l, hq⟩ e
        · omega
      subst ef
      refine ⟨f, by omega, hq, fun g hg hqg => ?_⟩
      by_cases eg : g = f
      · subst eg; exact Int.le_refl _
      · exact absurd ⟨g, by omega, hqg⟩ e
/-- one step down -/
theorem step_down (B : Bnd n hs x y) (Z : Btw n hs x y z) (ne : z ≠ x) : ∃ f z', Btw n hs x y z' ∧ gap n x z' < gap n x z ∧ (f, 2) ∈ deeds n hs x y z' ∧ chg z' f 2 = z := by
  have W := B.1.1
  have X := B.1.2.1
  have hl := Z.lay.len
  have pa := par_all W X Z.lay Z.par
  have ex : ∃ f, f < n ∧ decide (x.getD f 0 < z.getD f 0) = true := by
    refine Decidable.by_contra fun no => ne (ext_getD (by rw [hl, X.len]) fun f hf => ?_)
    have := Z.btw f (by omega)
    have h2 : ¬ x.getD f 0 < z.getD f 0 := fun q => no ⟨f, by omega, decide_eq_true q⟩
    omega
  obtain ⟨f, hf, hq, hm⟩ := ex_max n (fun f => decide (x.getD f 0 < z.getD f 0)) (fun f => z.getD f 0) ex
  have hq := of_decide_eq_true hq
  have pf := pa f hf
  have hi : f ∈ highs n hs z := mem_highs.mpr ⟨hf, fun g hg => by
    have gn := (W.adj hg).2
    have a1 := adj_step Z.lay hg
    have a2 := adj_step X hg
    rcases Int.lt_or_le (z.getD g 0) (z.getD f 0) with l | l
    · exact l
    · have := hm g gn (decide_eq_true (by omega))
      omega⟩
  have fl : f < z.length := by omega
  have D : (f, -2) ∈ deeds n hs x y z := mem_deeds.mpr (.inr ⟨rfl, hi, by show x.getD f 0 ≤ z.getD f 0 - 2; omega⟩)
  have Z' := deed_btw B Z D
  refine ⟨f, chg z f (-2), Z', ?_, ?_, ?_⟩
  · unfold gap
    refine sum_lt (fun g hg => ?_) (List.mem_range.mpr hf) ?_
    · by_cases e : f = g
      · subst e; rw [chg_same fl]; omega
      · rw [chg_other e]; exact Nat.le_refl _
    · rw [chg_same fl]; omega
  · refine mem_deeds.mpr (.inl ⟨rfl, mem_lows.mpr ⟨hf, fun g hg => ?_⟩, ?_⟩)
    · have := (mem_highs.mp hi).2 g hg
      simp only at hg
      have a1 := adj_step Z.lay hg
      have e1 : (chg z f (-2)).getD f 0 = z.getD f 0 + -2 := chg_same fl
      have e2 : (chg z f (-2)).getD g 0 = z.getD g 0 := chg_other (W.ne hg)
      show (chg z f (-2)).getD f 0 < (chg z f (-2)).getD g 0
      omega
    · show (chg z f (-2)).getD f 0 + 2 ≤ y.getD f 0
      rw [chg_same fl]
      have := Z.btw f hf
      omega
  · refine ext_getD (by rw [chg_len, chg_len]) fun g hg => ?_
    by_cases e : f = g
    · subst e
      rw [chg_same (by rw [chg_len]; exact fl), chg_same fl]
      omega
    · rw [chg_other e, chg_other e]
theorem reach_all (B : Bnd n hs x y) {F : List (List Int)} (hx : x ∈ F) (hc : ∀ z ∈ F, ∀ p ∈ deeds n hs x y z, chg z p.1 p.2 ∈ F) : ∀ z, Btw n hs x y z → z ∈ F := by
  have key : ∀ (m : Nat) (z : List Int), gap n x z ≤ m → Btw n hs x y z → z ∈ F := by
    intro m
    induction m with
    | zero =>
      intro z hm Z
      by_cases e : z = x
      · rw [e]; exact hx
      · obtain ⟨f, z', _, g, _⟩ := step_down B Z e
        omega
    | succ m ih =>
      intro z hm Z
      by_cases e : z = x
      · rw [e]; exact hx
      · obtain ⟨f, z', Z', g, d, e2⟩ := step_down B Z e
        have := hc z' (ih z' (by omega) Z') (f, 2) d
        rwa [e2] at this
  exact fun z => key _ z (Nat.le_refl _)
end
end TW
/-! TWF5: layings.py, joins.py. -/
namespace TW
open PySem PySem.Spec PyProof.Rows L2
section
variable {P : Program} {w : World} {K : PySem.W.Frag} {mg : Str → Option Value} {base : Heap} {f : Addr} {fd : FuncData}
abbrev Ty (P : Program) (w : World) (K : PySem.W.Frag) (mg : Str → Option Value) (base : Heap) := Cal P w K mg base
theorem zipP_ints (x y : List Int) : zipP (x.map .int) (y.map .int) = (x.zip y).map fun p => .tuple [.int p.1, .int p.2] := by
  unfold zipP
  rw [List.zip_map, List.map_map]
  rfl
theorem sz6 {n : Nat} (h : n ≤ 1000) : n < sizeLine := by rw [sizeLine_eq]; omega
def fBool1 (Q : Nat → List (Nat × Nat) → List Int → Prop) : List PyData → (PyData → Prop) → Prop := fun ds R => ∃ n hs x, ds = [dWeb n hs, dTs x] ∧ (WebOk n hs ∧ Q n hs x) ∧ R (.bool true)
def fNone1 (Q : Nat → List (Nat × Nat) → List Int → Prop) : List PyData → (PyData → Prop) → Prop := fun ds R => ∃ n hs x, ds = [dWeb n hs, dTs x] ∧ (WebOk n hs ∧ Q n hs x) ∧ R .none
def fTwo : List PyData → (PyData → Prop) → Prop := fun ds R => ∃ n hs x y, ds = [dWeb n hs, dTs x, dTs y] ∧ Two n hs x y ∧ R .none

theorem all_true {α : Type} {L : List α} {g : α → Bool} (h : ∀ a ∈ L, g a = true) : L.all g = true := List.all_eq_true.mpr h
theorem ok_is_laying_of (B : Bl mg) (C_is_in : Cal P w K mg base 2 "is_in" p_is_in (spD K fIsIn)) (F : Fun K "is_laying_of" "is_laying_of" s_is_laying_of f fd) : FnOk P w K mg base CX0 3 f fd p_is_laying_of (spD K (fBool1 Lay)) := by
  refine fun_d F sc_is_laying_of (fun ds R h => ?_) fun cdv A outer s H E hr ds R h => ?_
  · obtain ⟨n, hs, x, rfl, _⟩ := h; rfl
  · obtain ⟨n, hs, x, rfl, ⟨hw, hl⟩, hR⟩ := h
    refine db_eq (d := .bool true) ?_ hR
    have h1 := hw.small
    have h2 := hw.few
    have h3 := hl.len
    refine db_ifFE (dt_w (dw_or (dt_not (dt_val (de_isi (T' := "tuple") (r := true) B.b_isinstance B.b_tuple (de_var 1 rfl) ty_tup (by decide +kernel) bt_tuple))) fun _ => (dw_or1 (dt_neI (de_lenT B.b_len (de_var 1 rfl)) (de_ixT (de_var 0 rfl) de_int rfl))))) (by simp [h3]) ?_
    refine db_ifFE (dt_not (dt_val (de_allF (L := x) (g := fun _ => true) rfl B.b_all (de_lcG (own := [("height", 2)]) (L := x) (enc := .int) (f := fun _ => .bool true) rfl sc_is_laying_of.nd (blkOk_by (by kernel_rfl)) (di_tup (de_var 1 rfl)) rfl (fun _ _ _ _ _ => pg_name (i := 2) sc_is_laying_of.nd rfl (by first | exact Or.inl rfl | exact Or.inr rfl)) (fun _ _ => tgN 2) (sz6 (by omega)) (fun _ _ _ _ _ a ha => (de_callC C_is_in hr (by decide) (das_cons (de_var 2 rfl) (das_cons (de_neg (de_globE B.c_MOST_HEIGHT)) (das_cons (de_globE B.c_MOST_HEIGHT) das_nil))) ⟨_, _, _, rfl, hl.bnd a ha, rfl⟩)))))) (by simp) ?_
    refine db_ret (de_eq (de_allF (L := hs) (g := fun h => decide (((x.getD h.1 0 - x.getD h.2 0).natAbs : Int) = 1)) rfl B.b_all (de_lcG (own := [("one", 3), ("other", 4)]) (L := hs) (enc := encH) (f := fun h => .bool (decide (((x.getD h.1 0 - x.getD h.2 0).natAbs : Int) = 1))) rfl sc_is_laying_of.nd (blkOk_by (by kernel_rfl)) (di_tup (de_ixT (de_var 0 rfl) de_int rfl)) rfl (fun _ _ _ _ _ => pg_tup rfl (pgs_cons (pg_name (i := 3) sc_is_laying_of.nd rfl (by first | exact Or.inl rfl | exact Or.inr rfl)) (pgs_cons (pg_name (i := 4) sc_is_laying_of.nd rfl (by first | exact Or.inl rfl | exact Or.inr rfl)) pgs_nil))) (fun _ _ => tg2 3 4) (sz6 (by omega)) (fun _ _ _ _ _ a ha => (de_eqI (de_abs B.b_abs (de_sub (de_ixT (de_var 1 rfl) (de_var 3 rfl) (getI (by have := hw.rng a ha; omega))) (de_ixT (de_var 1 rfl) (de_var 4 rfl) (getI (by have := hw.rng a ha; omega))))) de_int)))) ?_)
    rw [all_true fun h hm => by have := hl.step h hm; rw [this]; rfl]
theorem ok_need_laying (B : Bl mg) (C_is_laying_of : Cal P w K mg base 3 "is_laying_of" p_is_laying_of (spD K (fBool1 Lay))) (F : Fun K "need_laying" "need_laying" s_need_laying f fd) : FnOk P w K mg base CX0 4 f fd p_need_laying (spD K (fNone1 Lay)) := by
  refine fun_n F sc_need_laying (fun ds R h => ?_) (fun ds R h => ?_) fun cdv A outer s H E hr ds R h => ?_
  · obtain ⟨n, hs, x, rfl, _⟩ := h; rfl
  · obtain ⟨n, hs, x, rfl, _, hR⟩ := h; exact hR
  · obtain ⟨n, hs, x, rfl, hw, hR⟩ := h
    exact dn_ifE (x := !true) (dt_not (dt_val (de_callC C_is_laying_of hr (by decide) (das_cons (de_var 0 rfl) (das_cons (de_var 1 rfl) das_nil)) ⟨n, hs, x, rfl, hw, rfl⟩))) rfl dn_nil
theorem ok_need_one (B : Bl mg) (C_need_web : Cal P w K mg base 5 "need_web" p_need_web (spD K fNone)) (C_need_laying : Cal P w K mg base 4 "need_laying" p_need_laying (spD K (fNone1 Lay))) (F : Fun K "need_one" "need_one" s_need_one f fd) : FnOk P w K mg base CX0 6 f fd p_need_one (spD K (fNone1 Lay)) := by
  refine fun_n F sc_need_one (fun ds R h => ?_) (fun ds R h => ?_) fun cdv A outer s H E hr ds R h => ?_
  · obtain ⟨n, hs, x, rfl, _⟩ := h; rfl
  · obtain ⟨n, hs, x, rfl, _, hR⟩ := h; exact hR
  · obtain ⟨n, hs, x, rfl, hw, hR⟩ := h
    exact dn_expr (P := fun _ => True) (de_callC C_need_web hr (by decide) (das_cons (de_var 0 rfl) das_nil) ⟨n, hs, rfl, hw.1, trivial⟩)
      (dn_expr (P := fun _ => True) (de_callC C_need_laying hr (by decide) (das_cons (de_var 0 rfl) (das_cons (de_var 1 rfl) das_nil)) ⟨n, hs, x, rfl, hw, trivial⟩) dn_nil)
theorem getI0 {n : Nat} {hs : List (Nat × Nat)} {x : List Int} (hw : WebOk n hs) (hl : Lay n hs x) : atI (x.map PyData.int) 0 = some (.int (x.getD 0 0)) := getI (i := 0) (by have := hl.len; have := hw.pos; omega)
theorem ok_need_two (B : Bl mg) (C_need_one : Cal P w K mg base 6 "need_one" p_need_one (spD K (fNone1 Lay))) (C_need_laying : Cal P w K mg base 4 "need_laying" p_need_laying (spD K (fNone1 Lay))) (F : Fun K "need_two" "need_two" s_need_two f fd) : FnOk P w K mg base CX0 7 f fd p_need_two (spD K fTwo) := by
  refine fun_n F sc_need_two (fun ds R h => ?_) (fun ds R h => ?_) fun cdv A outer s H E hr ds R h => ?_
  · obtain ⟨n, hs, x, y, rfl, _⟩ := h; rfl
  · obtain ⟨n, hs, x, y, rfl, _, hR⟩ := h; exact hR
  · obtain ⟨n, hs, x, y, rfl, ⟨hw, hx, hy, hp⟩, hR⟩ := h
    exact dn_expr (P := fun _ => True) (de_callC C_need_one hr (by decide) (das_cons (de_var 0 rfl) (das_cons (de_var 1 rfl) das_nil)) ⟨n, hs, x, rfl, ⟨hw, hx⟩, trivial⟩)
      (dn_expr (P := fun _ => True) (de_callC C_need_laying hr (by decide) (das_cons (de_var 0 rfl) (das_cons (de_var 2 rfl) das_nil)) ⟨n, hs, y, rfl, ⟨hw, hy⟩, trivial⟩)
      (dn_ifE (dt_neI (de_mod (de_sub (de_ixT (de_var 1 rfl) de_int (getI0 hw hx)) (de_ixT (de_var 2 rfl) de_int (getI0 hw hy))) de_int (by decide)) de_int) (by rw [hp]; rfl) dn_nil))

/-! lows, highs -/
def fLows (g : Nat → List (Nat × Nat) → List Int → List Nat) : List PyData → (PyData → Prop) → Prop := fun ds R => ∃ n hs x, ds = [dWeb n hs, dTs x] ∧ (WebOk n hs ∧ x.length = n) ∧ R (dNs (g n hs x))
theorem rng_nat (n : Nat) : rngP 0 ((n : Int).toNat) = (List.range n).map fun (k : Nat) => PyData.int (k : Int) := by
  unfold rngP
  rw [Int.toNat_natCast]
  congr 1
  funext i
  rw [Int.zero_add]
theorem near_at {n : Nat} {hs : List (Nat × Nat)} {k : Nat} (h : k < n) : atI ((List.range n).map fun k => dNs (nbr hs k)) ((k : Nat) : Int) = some (dNs (nbr hs k)) := atI_nat (by simp [h])
theorem nbr_sz {n : Nat} {hs : List (Nat × Nat)} (hw : WebOk n hs) (k : Nat) : (nbr hs k).length < sizeLine := sz6 (by have := nbr_len hs k; have := hw.few; omega)
theorem nbr_lt {n : Nat} {hs : List (Nat × Nat)} (hw : WebOk n hs) {k g : Nat} (h : g ∈ nbr hs k) : g < n := (hw.adj (mem_nbr.mp h)).2
theorem ok_lows_of (B : Bl mg) (C_nears_of : Cal P w K mg base 1 "nears_of" p_nears_of (spD K fNears)) (F : Fun K "lows_of" "lows_of" s_lows_of f fd) : FnOk P w K mg base CX0 2 f fd p_lows_of (spD K (fLows lows)) := by
  refine fun_d F sc_lows_of (fun ds R h => ?_) fun cdv A outer s H E hr ds R h => ?_
  · obtain ⟨n, hs, x, rfl, _⟩ := h; rfl
  · obtain ⟨n, hs, x, rfl, ⟨hw, hl⟩, hR⟩ := h
    refine db_eq (d := dNs (lows n hs x)) ?_ hR
    have h1 := hw.small
    refine db_setE 2 sc_lows_of.nd (d := dNear n hs) (de_callC C_nears_of hr (by decide) (das_cons (de_var 0 rfl) das_nil) ⟨n, hs, rfl, hw.r, rfl⟩) ?_
    exact db_ret (de_lcF (own := [("field", 3)]) (L := List.range n) (enc := fun (k : Nat) => .int k) (q := fun k => (nbr hs k).all fun g => decide (x.getD k 0 < x.getD g 0)) (f := fun (k : Nat) => .int k) rfl sc_lows_of.nd (blkOk_by (by kernel_rfl)) (di_range1 B.b_range (de_ixT (de_var 0 rfl) de_int rfl) (by omega) (by omega)) (rng_nat n) (fun _ _ _ _ _ => pg_name (i := 3) sc_lows_of.nd rfl (by first | exact Or.inl rfl | exact Or.inr rfl)) (fun _ _ => tgN 3) (sz6 (by rw [List.length_range]; omega))
      (fun _ _ _ _ _ a ha => (dt_val (de_allF (L := nbr hs a) (g := fun g => decide (x.getD a 0 < x.getD g 0)) rfl B.b_all (de_lcG (own := [("near", 4)]) (L := nbr hs a) (enc := fun (k : Nat) => .int k) (f := fun g => .bool (decide (x.getD a 0 < x.getD g 0))) rfl sc_lows_of.nd (blkOk_by (by kernel_rfl)) (di_listE (de_ixL (de_var 2 rfl) (de_var 3 rfl) (near_at (List.mem_range.mp ha)))) rfl (fun _ _ _ _ _ => pg_name (i := 4) sc_lows_of.nd rfl (by first | exact Or.inl rfl | exact Or.inr rfl)) (fun _ _ => tgN 4) (nbr_sz hw a)
        (fun _ _ _ _ _ b hb => (de_gt (de_ixT (de_var 1 rfl) (de_var 4 rfl) (getI (by rw [hl]; exact nbr_lt hw hb))) (de_ixT (de_var 1 rfl) (de_var 3 rfl) (getI (by rw [hl]; exact List.mem_range.mp ha))))))))) (fun _ _ _ _ _ a ha hp => (de_var 3 rfl)))
theorem ok_highs_of (B : Bl mg) (C_nears_of : Cal P w K mg base 1 "nears_of" p_nears_of (spD K fNears)) (F : Fun K "highs_of" "highs_of" s_highs_of f fd) : FnOk P w K mg base CX0 2 f fd p_highs_of (spD K (fLows highs)) := by
  refine fun_d F sc_highs_of (fun ds R h => ?_) fun cdv A outer s H E hr ds R h => ?_
  · obtain ⟨n, hs, x, rfl, _⟩ := h; rfl
  · obtain ⟨n, hs, x, rfl, ⟨hw, hl⟩, hR⟩ := h
    refine db_eq (d := dNs (highs n hs x)) ?_ hR
    have h1 := hw.small
    refine db_setE 2 sc_highs_of.nd (d := dNear n hs) (de_callC C_nears_of hr (by decide) (das_cons (de_var 0 rfl) das_nil) ⟨n, hs, rfl, hw.r, rfl⟩) ?_
    exact db_ret (de_lcF (own := [("field", 3)]) (L := List.range n) (enc := fun (k : Nat) => .int k) (q := fun k => (nbr hs k).all fun g => decide (x.getD g 0 < x.getD k 0)) (f := fun (k : Nat) => .int k) rfl sc_highs_of.nd (blkOk_by (by kernel_rfl)) (di_range1 B.b_range (de_ixT (de_var 0 rfl) de_int rfl) (by omega) (by omega)) (rng_nat n) (fun _ _ _ _ _ => pg_name (i := 3) sc_highs_of.nd rfl (by first | exact Or.inl rfl | exact Or.inr rfl)) (fun _ _ => tgN 3) (sz6 (by rw [List.length_range]; omega))
      (fun _ _ _ _ _ a ha => (dt_val (de_allF (L := nbr hs a) (g := fun g => decide (x.getD g 0 < x.getD a 0)) rfl B.b_all (de_lcG (own := [("near", 4)]) (L := nbr hs a) (enc := fun (k : Nat) => .int k) (f := fun g => .bool (decide (x.getD g 0 < x.getD a 0))) rfl sc_highs_of.nd (blkOk_by (by kernel_rfl)) (di_listE (de_ixL (de_var 2 rfl) (de_var 3 rfl) (near_at (List.mem_range.mp ha)))) rfl (fun _ _ _ _ _ => pg_name (i := 4) sc_highs_of.nd rfl (by first | exact Or.inl rfl | exact Or.inr rfl)) (fun _ _ => tgN 4) (nbr_sz hw a)
        (fun _ _ _ _ _ b hb => (de_lt (de_ixT (de_var 1 rfl) (de_var 4 rfl) (getI (by rw [hl]; exact nbr_lt hw hb))) (de_ixT (de_var 1 rfl) (de_var 3 rfl) (getI (by rw [hl]; exact List.mem_range.mp ha))))))))) (fun _ _ _ _ _ a ha hp => (de_var 3 rfl)))

/-! changed, moved -/
def fChg : List PyData → (PyData → Prop) → Prop := fun ds R => ∃ x f b, ds = [dTs x, .int (f : Nat), .int b] ∧ (f < x.length ∧ x.length ≤ 1000) ∧ R (dTs (chg x f b))
theorem cut_chg {x : List Int} {f : Nat} {b : Int} (h : f < x.length) : cutP (x.map .int) none (some ((f : Nat) : Int)) ++ [PyData.int (x.getD f 0 + b)] ++ cutP (x.map .int) (some (((f : Nat) : Int) + 1)) none = (chg x f b).map .int := by
  have e1 : cutP (x.map .int) none (some ((f : Nat) : Int)) = (x.take f).map .int := by
    unfold cutP
    rw [HT.sIx_none, HT.sIx_nat, List.drop_zero, List.length_map, Nat.min_eq_left (Nat.le_of_lt h), Nat.sub_zero, List.map_take]
  have e2 : cutP (x.map .int) (some (((f : Nat) : Int) + 1)) none = (x.drop (f + 1)).map .int := by
    unfold cutP
    rw [show (((f : Nat) : Int) + 1) = ((f + 1 : Nat) : Int) by omega, HT.sIx_none, HT.sIx_nat, List.length_map, Nat.min_eq_left (by omega), List.map_drop]
    exact List.take_of_length_le (by simp)
  rw [e1, e2, ← chg_eq h, List.map_append, List.map_append]
  rfl
theorem ok_changed (B : Bl mg) (F : Fun K "changed" "changed" s_changed f fd) : FnOk P w K mg base CX0 1 f fd p_changed (spD K fChg) := by
  refine fun_d F sc_changed (fun ds R h => ?_) fun cdv A outer s H E hr ds R h => ?_
  · obtain ⟨x, g, b, rfl, _⟩ := h; rfl
  · obtain ⟨x, g, b, rfl, ⟨hg, hz⟩, hR⟩ := h
    refine db_eq (d := dTs (chg x g b)) ?_ hR
    have len : ∀ (lo hi : Option Int), (cutP (x.map .int) lo hi).length ≤ 1000 := fun lo hi => by
      unfold cutP
      rw [List.length_take, List.length_drop, List.length_map]
      omega
    refine db_ret (de_eq (de_cat (de_cat (de_sliceT (de_var 0 rfl) do_none (do_some (de_var 1 rfl))) (de_tup (ds := [.int (x.getD g 0 + b)]) (das_cons (de_add (de_ixT (de_var 0 rfl) (de_var 1 rfl) (getI hg)) (de_var 2 rfl)) das_nil) (show 1 ≤ sizeLine by decide)) ?_) (de_sliceT (de_var 0 rfl) (do_some (de_add (de_var 1 rfl) de_int)) do_none) ?_) ?_)
    · rw [sizeLine_eq]; have := len none (some ((g : Nat) : Int)); simp; omega
    · rw [sizeLine_eq, List.length_append]; have := len none (some ((g : Nat) : Int)); have := len (some (((g : Nat) : Int) + 1)) none; simp; omega
    · rw [cut_chg hg]
def fMoved : List PyData → (PyData → Prop) → Prop := fun ds R => ∃ n hs x b, ds = [dWeb n hs, dTs x, .int b] ∧ (WebOk n hs ∧ Lay n hs x ∧ (-2000000 ≤ b ∧ b ≤ 2000000) ∧ Lay n hs (x.map fun h => h + b)) ∧ R (dTs (x.map fun h => h + b))
theorem ok_moved (B : Bl mg) (C_is_in : Cal P w K mg base 2 "is_in" p_is_in (spD K fIsIn)) (C_is_laying_of : Cal P w K mg base 3 "is_laying_of" p_is_laying_of (spD K (fBool1 Lay))) (C_need_one : Cal P w K mg base 6 "need_one" p_need_one (spD K (fNone1 Lay))) (F : Fun K "moved" "moved" s_moved f fd) : FnOk P w K mg base CX0 7 f fd p_moved (spD K fMoved) := by
  refine fun_d F sc_moved (fun ds R h => ?_) fun cdv A outer s H E hr ds R h => ?_
  · obtain ⟨n, hs, x, b, rfl, _⟩ := h; rfl
  · obtain ⟨n, hs, x, b, rfl, ⟨hw, hl, hb, hm⟩, hR⟩ := h
    refine db_eq (d := dTs (x.map fun h => h + b)) ?_ hR
    have h1 := hw.small
    have h2 := hl.len
    refine db_expr (P := fun _ => True) (de_callC C_need_one hr (by decide) (das_cons (de_var 0 rfl) (das_cons (de_var 1 rfl) das_nil)) ⟨n, hs, x, rfl, ⟨hw, hl⟩, trivial⟩) ?_
    refine db_ifFE (x := !true) (dt_not (dt_val (de_callC C_is_in hr (by decide) (das_cons (de_var 2 rfl) (das_cons (de_mul (de_neg de_int) (de_globE B.c_MOST_HEIGHT) (.inl (by decide))) (das_cons (de_mul de_int (de_globE B.c_MOST_HEIGHT) (.inl (by decide))) das_nil))) ⟨_, _, _, rfl, by omega, rfl⟩))) rfl ?_
    refine db_setE 3 sc_moved.nd (d := dTs (x.map fun h => h + b)) (de_eq (de_tupleE B.b_tuple (de_lcG (own := [("height", 4)]) (L := x) (enc := .int) (f := fun h => .int (h + b)) rfl sc_moved.nd (blkOk_by (by kernel_rfl)) (di_tup (de_var 1 rfl)) rfl (fun _ _ _ _ _ => pg_name (i := 4) sc_moved.nd rfl (by first | exact Or.inl rfl | exact Or.inr rfl)) (fun _ _ => tgN 4) (sz6 (by omega)) (fun _ _ _ _ _ a ha => (de_add (de_var 4 rfl) (de_var 2 rfl))))) (by rw [dTs, List.map_map]; rfl)) ?_
    refine db_ifFE (x := !true) (dt_not (dt_val (de_callC C_is_laying_of hr (by decide) (das_cons (de_var 0 rfl) (das_cons (de_var 3 rfl) das_nil)) ⟨n, hs, _, rfl, ⟨hw, hm⟩, rfl⟩))) rfl ?_
    exact db_ret (de_var 3 rfl)

/-! greater, lesser -/
def fZip (g : Int → Int → Int) : List PyData → (PyData → Prop) → Prop := fun ds R => ∃ x y, ds = [dTs x, dTs y] ∧ (x.length ≤ 1000) ∧ R (dTs ((x.zip y).map fun p => g p.1 p.2))
theorem ok_greater_of (B : Bl mg) (F : Fun K "greater_of" "greater_of" s_greater_of f fd) : FnOk P w K mg base CX0 1 f fd p_greater_of (spD K (fZip max)) := by
  refine fun_d F sc_greater_of (fun ds R h => ?_) fun cdv A outer s H E hr ds R h => ?_
  · obtain ⟨x, y, rfl, _⟩ := h; rfl
  · obtain ⟨x, y, rfl, hz, hR⟩ := h
    refine db_eq (d := dTs ((x.zip y).map fun p => max p.1 p.2)) ?_ hR
    exact db_ret (de_eq (de_tupleE B.b_tuple (de_lcG (own := [("height", 2), ("more", 3)]) (L := x.zip y) (enc := fun p => .tuple [.int p.1, .int p.2]) (f := fun p => .int (max p.1 p.2)) rfl sc_greater_of.nd (blkOk_by (by kernel_rfl)) (di_zipT B.b_zip (de_var 0 rfl) (de_var 1 rfl)) (zipP_ints x y) (fun _ _ _ _ _ => pg_tup rfl (pgs_cons (pg_name (i := 2) sc_greater_of.nd rfl (by first | exact Or.inl rfl | exact Or.inr rfl)) (pgs_cons (pg_name (i := 3) sc_greater_of.nd rfl (by first | exact Or.inl rfl | exact Or.inr rfl)) pgs_nil))) (fun _ _ => tg2 2 3) (sz6 (by rw [List.length_zip]; omega)) (fun _ _ _ _ _ a ha => (de_max2 rfl B.b_max (de_var 2 rfl) (de_var 3 rfl))))) (by rw [dTs, List.map_map]; rfl))
theorem ok_lesser_of (B : Bl mg) (F : Fun K "lesser_of" "lesser_of" s_lesser_of f fd) : FnOk P w K mg base CX0 1 f fd p_lesser_of (spD K (fZip min)) := by
  refine fun_d F sc_lesser_of (fun ds R h => ?_) fun cdv A outer s H E hr ds R h => ?_
  · obtain ⟨x, y, rfl, _⟩ := h; rfl
  · obtain ⟨x, y, rfl, hz, hR⟩ := h
    refine db_eq (d := dTs ((x.zip y).map fun p => min p.1 p.2)) ?_ hR
    exact db_ret (de_eq (de_tupleE B.b_tuple (de_lcG (own := [("height", 2), ("more", 3)]) (L := x.zip y) (enc := fun p => .tuple [.int p.1, .int p.2]) (f := fun p => .int (min p.1 p.2)) rfl sc_lesser_of.nd (blkOk_by (by kernel_rfl)) (di_zipT B.b_zip (de_var 0 rfl) (de_var 1 rfl)) (zipP_ints x y) (fun _ _ _ _ _ => pg_tup rfl (pgs_cons (pg_name (i := 2) sc_lesser_of.nd rfl (by first | exact Or.inl rfl | exact Or.inr rfl)) (pgs_cons (pg_name (i := 3) sc_lesser_of.nd rfl (by first | exact Or.inl rfl | exact Or.inr rfl)) pgs_nil))) (fun _ _ => tg2 2 3) (sz6 (by rw [List.length_zip]; omega)) (fun _ _ _ _ _ a ha => (de_min2 rfl B.b_min (de_var 2 rfl) (de_var 3 rfl))))) (by rw [dTs, List.map_map]; rfl))
def fTwoT (g : Int → Int → Int) : List PyData → (PyData → Prop) → Prop := fun ds R => ∃ n hs x y, ds = [dWeb n hs, dTs x, dTs y] ∧ Two n hs x y ∧ R (dTs ((x.zip y).map fun p => g p.1 p.2))
theorem Two.sz {n : Nat} {hs : List (Nat × Nat)} {x y : List Int} (h : Two n hs x y) : x.length ≤ 1000 := by have := h.1.small; have := h.2.1.len; omega
theorem ok_greater (B : Bl mg) (C_need_two : Cal P w K mg base 7 "need_two" p_need_two (spD K fTwo)) (C_greater_of : Cal P w K mg base 1 "greater_of" p_greater_of (spD K (fZip max))) (F : Fun K "greater" "greater" s_greater f fd) : FnOk P w K mg base CX0 8 f fd p_greater (spD K (fTwoT max)) := by
  refine fun_d F sc_greater (fun ds R h => ?_) fun cdv A outer s H E hr ds R h => ?_
  · obtain ⟨n, hs, x, y, rfl, _⟩ := h; rfl
  · obtain ⟨n, hs, x, y, rfl, h2, hR⟩ := h
    exact db_expr (P := fun _ => True) (de_callC C_need_two hr (by decide) (das_cons (de_var 0 rfl) (das_cons (de_var 1 rfl) (das_cons (de_var 2 rfl) das_nil))) ⟨n, hs, x, y, rfl, h2, trivial⟩)
      (db_ret (de_callC C_greater_of hr (by decide) (das_cons (de_var 1 rfl) (das_cons (de_var 2 rfl) das_nil)) ⟨x, y, rfl, h2.sz, hR⟩))
theorem ok_lesser (B : Bl mg) (C_need_two : Cal P w K mg base 7 "need_two" p_need_two (spD K fTwo)) (C_lesser_of : Cal P w K mg base 1 "lesser_of" p_lesser_of (spD K (fZip min))) (F : Fun K "lesser" "lesser" s_lesser f fd) : FnOk P w K mg base CX0 8 f fd p_lesser (spD K (fTwoT min)) := by
  refine fun_d F sc_lesser (fun ds R h => ?_) fun cdv A outer s H E hr ds R h => ?_
  · obtain ⟨n, hs, x, y, rfl, _⟩ := h; rfl
  · obtain ⟨n, hs, x, y, rfl, h2, hR⟩ := h
    exact db_expr (P := fun _ => True) (de_callC C_need_two hr (by decide) (das_cons (de_var 0 rfl) (das_cons (de_var 1 rfl) (das_cons (de_var 2 rfl) das_nil))) ⟨n, hs, x, y, rfl, h2, trivial⟩)
      (db_ret (de_callC C_lesser_of hr (by decide) (das_cons (de_var 1 rfl) (das_cons (de_var 2 rfl) das_nil)) ⟨x, y, rfl, h2.sz, hR⟩))
def fAbove : List PyData → (PyData → Prop) → Prop := fun ds R => ∃ n hs x y, ds = [dWeb n hs, dTs x, dTs y] ∧ Two n hs x y ∧ R (.bool ((x.zip y).all fun p => decide (p.2 ≤ p.1)))
theorem ok_is_above (B : Bl mg) (C_need_two : Cal P w K mg base 7 "need_two" p_need_two (spD K fTwo)) (F : Fun K "is_above" "is_above" s_is_above f fd) : FnOk P w K mg base CX0 8 f fd p_is_above (spD K fAbove) := by
  refine fun_d F sc_is_above (fun ds R h => ?_) fun cdv A outer s H E hr ds R h => ?_
  · obtain ⟨n, hs, x, y, rfl, _⟩ := h; rfl
  · obtain ⟨n, hs, x, y, rfl, h2, hR⟩ := h
    refine db_eq (d := .bool ((x.zip y).all fun p => decide (p.2 ≤ p.1))) ?_ hR
    exact db_expr (P := fun _ => True) (de_callC C_need_two hr (by decide) (das_cons (de_var 0 rfl) (das_cons (de_var 1 rfl) (das_cons (de_var 2 rfl) das_nil))) ⟨n, hs, x, y, rfl, h2, trivial⟩)
      (db_ret (de_allF (L := x.zip y) (g := fun p => decide (p.2 ≤ p.1)) rfl B.b_all (de_lcG (own := [("height", 3), ("more", 4)]) (L := x.zip y) (enc := fun p => .tuple [.int p.1, .int p.2]) (f := fun p => .bool (decide (p.2 ≤ p.1))) rfl sc_is_above.nd (blkOk_by (by kernel_rfl)) (di_zipT B.b_zip (de_var 1 rfl) (de_var 2 rfl)) (zipP_ints x y) (fun _ _ _ _ _ => pg_tup rfl (pgs_cons (pg_name (i := 3) sc_is_above.nd rfl (by first | exact Or.inl rfl | exact Or.inr rfl)) (pgs_cons (pg_name (i := 4) sc_is_above.nd rfl (by first | exact Or.inl rfl | exact Or.inr rfl)) pgs_nil))) (fun _ _ => tg2 3 4) (sz6 (by rw [List.length_zip]; have := h2.sz; omega)) (fun _ _ _ _ _ a ha => (de_ge (de_var 3 rfl) (de_var 4 rfl))))))
def fBnd : List PyData → (PyData → Prop) → Prop := fun ds R => ∃ n hs x y, ds = [dWeb n hs, dTs x, dTs y] ∧ Bnd n hs x y ∧ R .none
theorem ok_need_bounds (B : Bl mg) (C_need_two : Cal P w K mg base 7 "need_two" p_need_two (spD K fTwo)) (F : Fun K "need_bounds" "need_bounds" s_need_bounds f fd) : FnOk P w K mg base CX0 8 f fd p_need_bounds (spD K fBnd) := by
  refine fun_n F sc_need_bounds (fun ds R h => ?_) (fun ds R h => ?_) fun cdv A outer s H E hr ds R h => ?_
  · obtain ⟨n, hs, x, y, rfl, _⟩ := h; rfl
  · obtain ⟨n, hs, x, y, rfl, _, hR⟩ := h; exact hR
  · obtain ⟨n, hs, x, y, rfl, ⟨h2, hb⟩, hR⟩ := h
    exact dn_expr (P := fun _ => True) (de_callC C_need_two hr (by decide) (das_cons (de_var 0 rfl) (das_cons (de_var 1 rfl) (das_cons (de_var 2 rfl) das_nil))) ⟨n, hs, x, y, rfl, h2, trivial⟩)
      (dn_ifE (dt_val (de_anyF (L := x.zip y) (g := fun p => decide (p.2 < p.1)) rfl B.b_any (de_lcG (own := [("low", 3), ("high", 4)]) (L := x.zip y) (enc := fun p => .tuple [.int p.1, .int p.2]) (f := fun p => .bool (decide (p.2 < p.1))) rfl sc_need_bounds.nd (blkOk_by (by kernel_rfl)) (di_zipT B.b_zip (de_var 1 rfl) (de_var 2 rfl)) (zipP_ints x y) (fun _ _ _ _ _ => pg_tup rfl (pgs_cons (pg_name (i := 3) sc_need_bounds.nd rfl (by first | exact Or.inl rfl | exact Or.inr rfl)) (pgs_cons (pg_name (i := 4) sc_need_bounds.nd rfl (by first | exact Or.inl rfl | exact Or.inr rfl)) pgs_nil))) (fun _ _ => tg2 3 4) (sz6 (by rw [List.length_zip]; have := h2.sz; omega)) (fun _ _ _ _ _ a ha => (de_lt (de_var 4 rfl) (de_var 3 rfl))))))
        (by rw [List.any_eq_false]; intro p hp; have := hb p hp; simp; omega) dn_nil)
end
end TW
/-! TWF6: bounds.py, best.py, the plain defs. -/
namespace TW
open PySem PySem.Spec PyProof.Rows L2
section
variable {P : Program} {w : World} {K : PySem.W.Frag} {mg : Str → Option Value} {base : Heap} {f : Addr} {fd : FuncData}
theorem has_max : ∀ (ns : List Int), 0 < ns.length → ∃ m, IsMax ns m
  | [a], _ => ⟨a, by simp, by simp⟩
  | a :: b :: r, _ => by
    obtain ⟨m, h1, h2⟩ := has_max (b :: r) (by simp)
    by_cases q : a ≤ m
    · exact ⟨m, List.mem_cons_of_mem _ h1, fun y hy => by
        rcases List.mem_cons.mp hy with rfl | hy
        · exact q
        · exact h2 y hy⟩
    · exact ⟨a, List.mem_cons_self, fun y hy => by
        rcases List.mem_cons.mp hy with rfl | hy
        · exact Int.le_refl _
        · have := h2 y hy; omega⟩
theorem filter_empty {α : Type} {l : List α} {q : α → Bool} : (l.filter q).isEmpty = l.all fun z => !q z := by
  induction l with
  | nil => rfl
  | cons a l ih =>
    rw [List.all_cons, ← ih]
    cases h : q a <;> simp [h]
theorem all_congr {α : Type} {l : List α} {p q : α → Bool} (h : ∀ a ∈ l, p a = q a) : l.all p = l.all q := by
  induction l with
  | nil => rfl
  | cons a l ih => rw [List.all_cons, List.all_cons, h a List.mem_cons_self, ih fun b hb => h b (List.mem_cons_of_mem _ hb)]
section
variable {X : Cx} {ρ : DEnv} {a b : Expr} {rest body : List Stmt} {P : PyData → Prop} {pos p1 : Pos}
/-- if a > k: raise, a told by a property -/
theorem dn_ifR {k : Int} (ha : DeR X a ρ P) (hb : De X b ρ (.int k)) (hP : ∀ d, P d → ∃ i : Int, i ≤ k ∧ d = .int i) (hr : DbN X rest ρ) : DbN X (.If (.Compare a [.Gt] [b] p1) body [] pos :: rest) ρ :=
  dn_if (dt_cmpR op_gt (P := P) (Q := (· = .int k)) (by
    rintro x y dx _ G H pd rfl s hx hy kk q
    obtain ⟨i, hi, rfl⟩ := hP dx pd
    cases hx; cases hy
    exact ⟨i, k, rfl, rfl, q _ _ G H (Nxt.refl s) (show PyData.bool (decide (k < i)) = _ by rw [decide_eq_false (by omega)]) (.bl _)⟩) ha hb (nomark _)) hr
end
def fBreadth : List PyData → (PyData → Prop) → Prop := fun ds R => ∃ n hs, ds = [dWeb n hs] ∧ WebOk n hs ∧ ∀ k : Int, k ≤ 6 → R (.int k)
abbrev encD (p : Nat × Int) : PyData := .tuple [.int p.1, .int p.2]
def fDeeds : List PyData → (PyData → Prop) → Prop := fun ds R => ∃ n hs x y z, ds = [dWeb n hs, dTs x, dTs y, dTs z] ∧ (WebOk n hs ∧ x.length = n ∧ y.length = n ∧ z.length = n) ∧ R (.list ((deeds n hs x y z).map encD))
def fBetween : List PyData → (PyData → Prop) → Prop := fun ds R => ∃ n hs x y, ds = [dWeb n hs, dTs x, dTs y, .int 500] ∧ Rng n hs x y ∧ ∀ L, IsAll n hs x y L → R (dLs L)
def fSome : List PyData → (PyData → Prop) → Prop := fun ds R => ∃ n hs x y, ds = [dWeb n hs, dTs x, dTs y] ∧ Rng n hs x y ∧ ∀ L, IsAll n hs x y L → R (dLs L)
def fWs : List PyData → (PyData → Prop) → Prop := fun ds R => ∃ n hs v, ds = [dWeb n hs, dTs v] ∧ (WebOk n hs ∧ WOk n v) ∧ R .none
def fAll : List PyData → (PyData → Prop) → Prop := fun ds R => ∃ n hs x y v, ds = [dWeb n hs, dTs x, dTs y, dTs v] ∧ (Rng n hs x y ∧ WOk n v) ∧ R .none
def fWo : List PyData → (PyData → Prop) → Prop := fun ds R => ∃ x v, ds = [dTs x, dTs v] ∧ (x.length ≤ 1000 ∧ ∀ u ∈ v, -1000000 ≤ u ∧ u ≤ 1000000) ∧ R (.int (wo x v))
def fBest : List PyData → (PyData → Prop) → Prop := fun ds R => ∃ n hs x y v, ds = [dWeb n hs, dTs x, dTs y, dTs v] ∧ (Rng n hs x y ∧ WOk n v) ∧ ∀ m, IsBest n hs x y v m → R (.int m)
def fNumber : List PyData → (PyData → Prop) → Prop := fun ds R => ∃ n hs x y v, ds = [dWeb n hs, dTs x, dTs y, dTs v] ∧ (Rng n hs x y ∧ WOk n v) ∧ ∀ m T, IsBest n hs x y v m → IsTold n hs x y v m T → R (.int T.length)
def fShows : List PyData → (PyData → Prop) → Prop := fun ds R => ∃ n hs x y v z, ds = [dWeb n hs, dTs x, dTs y, dTs v, dTs z] ∧ (Rng n hs x y ∧ WOk n v ∧ Lay n hs z) ∧ ∀ m b, IsBest n hs x y v m → (b = true ↔ Btw n hs x y z ∧ wo z v = m) → R (.bool b)
def fGain : List PyData → (PyData → Prop) → Prop := fun ds R => ∃ n hs x y v z, ds = [dWeb n hs, dTs x, dTs y, dTs v, dTs z] ∧ (Rng n hs x y ∧ WOk n v ∧ Btw n hs x y z) ∧ ∀ m, IsBest n hs x y v m → R (.int (m - wo z v))
def fLies : List PyData → (PyData → Prop) → Prop := fun ds R => ∃ x y z, ds = [dTs x, dTs y, dTs z] ∧ (x.length ≤ 1000 ∧ 1 ≤ x.length ∧ y.length = x.length ∧ z.length = x.length) ∧ R (.bool (inB x y z))
def fLowsL (g : Nat → List (Nat × Nat) → List Int → List Nat) : List PyData → (PyData → Prop) → Prop := fun ds R => ∃ n hs x, ds = [dWeb n hs, dTs x] ∧ (WebOk n hs ∧ Lay n hs x) ∧ R (dNs (g n hs x))
theorem at_last {l : List Nat} (h : l ≠ []) : atI (l.map fun (k : Nat) => PyData.int k) (-1) = some (.int (l.getLastD 0)) := by
  have hl := List.length_pos_iff.mpr h
  unfold atI ixN
  rw [if_neg (by omega), List.length_map, if_pos (by omega)]
  rw [show (-1 + (l.length : Int)).toNat = l.length - 1 by omega]
  show (l.map _)[l.length - 1]? = _
  rw [List.getElem?_map, ← List.getLast?_eq_getElem?, List.getLast?_eq_some_getLast h, List.getLastD_eq_getLast?, List.getLast?_eq_some_getLast h]
  rfl
theorem lows_le (n : Nat) (hs : List (Nat × Nat)) (x : List Int) : (lows n hs x).length ≤ n := by unfold lows; refine Nat.le_trans (List.length_filter_le ..) ?_; rw [List.length_range]; exact Nat.le_refl _
theorem highs_le (n : Nat) (hs : List (Nat × Nat)) (x : List Int) : (highs n hs x).length ≤ n := by unfold highs; refine Nat.le_trans (List.length_filter_le ..) ?_; rw [List.length_range]; exact Nat.le_refl _
theorem lows_lt {n : Nat} {hs : List (Nat × Nat)} {x : List Int} {f : Nat} (h : f ∈ lows n hs x) : f < n := List.mem_range.mp (List.mem_filter.mp h).1
theorem highs_lt {n : Nat} {hs : List (Nat × Nat)} {x : List Int} {f : Nat} (h : f ∈ highs n hs x) : f < n := List.mem_range.mp (List.mem_filter.mp h).1
theorem IsAll.le {n : Nat} {hs : List (Nat × Nat)} {x y : List Int} {L : List (List Int)} (h : IsAll n hs x y L) (q : Rng n hs x y) : L.length ≤ 500 := q.2 L h.nd fun z hz => (h.all z).mp hz
theorem Btw.sz {n : Nat} {hs : List (Nat × Nat)} {x y z : List Int} (h : Btw n hs x y z) (hw : WebOk n hs) : z.length ≤ 1000 := by have := h.lay.len; have := hw.small; omega
theorem IsAll.max {n : Nat} {hs : List (Nat × Nat)} {x y v : List Int} {m : Int} {L : List (List Int)} (h : IsAll n hs x y L) (hm : IsMax (L.map fun z => wo z v) m) : IsBest n hs x y v m := by
  obtain ⟨h1, h2⟩ := hm
  obtain ⟨z, hz, e⟩ := List.mem_map.mp h1
  exact ⟨⟨z, (h.all z).mp hz, e⟩, fun z hz => h2 _ (List.mem_map.mpr ⟨z, (h.all z).mpr hz, rfl⟩)⟩
theorem IsAll.pos {n : Nat} {hs : List (Nat × Nat)} {x y : List Int} {L : List (List Int)} (h : IsAll n hs x y L) (q : Rng n hs x y) : 0 < L.length := List.length_pos_of_mem ((h.all x).mpr q.1.floor)
theorem ok_breadth_of (B : Bl mg) (C_nears_of : Cal P w K mg base 1 "nears_of" p_nears_of (spD K fNears)) (F : Fun K "breadth_of" "breadth_of" s_breadth_of f fd) : FnOk P w K mg base CX0 2 f fd p_breadth_of (spD K fBreadth) := by
  refine fun_d F sc_breadth_of (fun ds R h => ?_) fun cdv A outer s H E hr ds R h => ?_
  · obtain ⟨n, hs, rfl, _⟩ := h; rfl
  · obtain ⟨n, hs, rfl, hw, hR⟩ := h
    have h1 := hw.small
    refine db_setE 1 sc_breadth_of.nd (d := dNear n hs) (de_callC C_nears_of hr (by decide) (das_cons (de_var 0 rfl) das_nil) ⟨n, hs, rfl, hw.r, rfl⟩) ?_
    refine db_setE 2 sc_breadth_of.nd de_int ?_
    refine db_for (X := cxD P w K mg base N_breadth_of "breadth_of" s_breadth_of f cdv A outer s H E) (Pl := fun ds => ds = rngP 0 (n : Int).toNat) (g := gName 3) (bd := fun d ρ => ρ.set 3 (some d)) (fun _ i ρ1 => ∃ (k : Int) (o : Option PyData), k ≤ 6 ∧ ρ1 = [some (dWeb n hs), some (dNear n hs), some (.int k), o, none]) PassesOwn.never rfl (di_range1 B.b_range (de_ixT (de_var 0 rfl) de_int rfl) (by omega) (by omega)) (pg_name (i := 3) sc_breadth_of.nd rfl (by first | exact Or.inl rfl | exact Or.inr rfl)) ?_ ?_ ?_
    · rintro ds i d ρ1 rfl hd ⟨k, o, hk, rfl⟩
      have hd2 := hd
      rw [rng_nat, List.getElem?_map] at hd
      have hi : i < n := by
        have := (List.getElem?_eq_some_iff.mp hd2).1
        simpa [rngP] using this
      rw [List.getElem?_range hi] at hd
      have e : PyData.int (i : Nat) = d := Option.some.inj hd
      subst e
      refine ⟨tb_name 3, ?_⟩
      refine dk_setE 2 sc_breadth_of.nd (de_max2 rfl B.b_max (de_var 2 rfl) (de_lenE B.b_len (de_lcF (own := [("field", 4)]) (L := List.range (i + 1)) (enc := fun (k : Nat) => .int k) (q := fun k => (!(nbr hs k).isEmpty && decide ((i : Int) < ((nbr hs k).getLastD 0 : Nat)))) (f := fun (k : Nat) => .int 1) rfl sc_breadth_of.nd (blkOk_by (by kernel_rfl)) (di_range1 B.b_range (de_add (de_var 3 rfl) de_int) (by omega) (by omega)) (rng_nat (i + 1)) (fun _ _ _ _ _ => pg_name (i := 4) sc_breadth_of.nd rfl (by first | exact Or.inl rfl | exact Or.inr rfl)) (fun _ _ => tgN 4) (sz6 (by rw [List.length_range]; omega)) (fun _ _ _ _ _ a ha => dt_eq (dt_w (dw_and (x := !(PyData.eqv (dNs (nbr hs a)) (.list []))) (dt_neD (hu64 hr) (de_ixL (de_var 1 rfl) (de_var 4 rfl) (near_at (by have := List.mem_range.mp ha; omega))) (de_lst das_nil) (sh_dNs _).shaped sh_nil.shaped) fun h => (dw_and1 (dt_gt (de_ixL (de_ixL (de_var 1 rfl) (de_var 4 rfl) (near_at (by have := List.mem_range.mp ha; omega))) (de_neg de_int) (at_last (by intro e; rw [eqv_nil, List.isEmpty_map, e] at h; cases h))) (de_var 3 rfl))))) (by rw [eqv_nil, List.isEmpty_map])) (fun _ _ _ _ _ a ha hp => de_int)))) (dk_nil ⟨_, _, ?_, rfl⟩)
      have : ∀ q : Nat → Bool, ((List.range (i + 1)).filter q).length ≤ i + 1 := fun q => by refine Nat.le_trans (List.length_filter_le ..) ?_; rw [List.length_range]; exact Nat.le_refl _
      rw [List.length_map]
      have := this fun k => (!(nbr hs k).isEmpty && decide ((i : Int) < ((nbr hs k).getLastD 0 : Nat)))
      omega
    · rintro ds rfl
      exact ⟨0, none, by omega, rfl⟩
    · rintro ds ρ1 rfl ⟨k, o, hk, rfl⟩
      exact db_imp (db_ret (de_var 2 rfl)) fun d e => e ▸ hR k hk
theorem ok_need_worths (B : Bl mg) (C_is_in : Cal P w K mg base 2 "is_in" p_is_in (spD K fIsIn)) (F : Fun K "need_worths" "need_worths" s_need_worths f fd) : FnOk P w K mg base CX0 3 f fd p_need_worths (spD K fWs) := by
  refine fun_n F sc_need_worths (fun ds R h => ?_) (fun ds R h => ?_) fun cdv A outer s H E hr ds R h => ?_
  · obtain ⟨n, hs, v, rfl, _⟩ := h; rfl
  · obtain ⟨n, hs, v, rfl, _, hR⟩ := h; exact hR
  · obtain ⟨n, hs, v, rfl, ⟨hw, hv⟩, hR⟩ := h
    have h1 := hw.small
    have h2 := hv.len
    refine dn_ifE (dt_w (dw_or (dt_not (dt_val (de_isi (T' := "tuple") (r := true) B.b_isinstance B.b_tuple (de_var 1 rfl) ty_tup (by decide +kernel) bt_tuple))) fun _ => (dw_or1 (dt_neI (de_lenT B.b_len (de_var 1 rfl)) (de_ixT (de_var 0 rfl) de_int rfl))))) (by simp [h2]) ?_
    exact dn_ifE (dt_not (dt_val (de_allF (L := v) (g := fun _ => true) rfl B.b_all (de_lcG (own := [("worth", 2)]) (L := v) (enc := .int) (f := fun _ => .bool true) rfl sc_need_worths.nd (blkOk_by (by kernel_rfl)) (di_tup (de_var 1 rfl)) rfl (fun _ _ _ _ _ => pg_name (i := 2) sc_need_worths.nd rfl (by first | exact Or.inl rfl | exact Or.inr rfl)) (fun _ _ => tgN 2) (sz6 (by omega)) (fun _ _ _ _ _ a ha => (de_callC C_is_in hr (by decide) (das_cons (de_var 2 rfl) (das_cons (de_neg (de_globE B.c_MOST_WORTH)) (das_cons (de_globE B.c_MOST_WORTH) das_nil))) ⟨_, _, _, rfl, hv.bnd a ha, rfl⟩)))))) (by simp) dn_nil
theorem ok_need_narrow (B : Bl mg) (C_need_web : Cal P w K mg base 5 "need_web" p_need_web (spD K fNone)) (C_breadth_of : Cal P w K mg base 2 "breadth_of" p_breadth_of (spD K fBreadth)) (F : Fun K "need_narrow" "need_narrow" s_need_narrow f fd) : FnOk P w K mg base CX0 6 f fd p_need_narrow (spD K fNone) := by
  refine fun_n F sc_need_narrow (fun ds R h => ?_) (fun ds R h => ?_) fun cdv A outer s H E hr ds R h => ?_
  · obtain ⟨n, hs, rfl, _⟩ := h; rfl
  · obtain ⟨n, hs, rfl, _, hR⟩ := h; exact hR
  · obtain ⟨n, hs, rfl, hw, hR⟩ := h
    refine dn_expr (P := fun _ => True) (de_callC C_need_web hr (by decide) (das_cons (de_var 0 rfl) das_nil) ⟨n, hs, rfl, hw, trivial⟩) ?_
    exact dn_ifR (P := fun d => ∃ k : Int, k ≤ 6 ∧ d = .int k) (de_callC C_breadth_of hr (by decide) (das_cons (de_var 0 rfl) das_nil) ⟨n, hs, rfl, hw, fun k hk => ⟨k, hk, rfl⟩⟩) (de_globE B.c_MOST_BREADTH) (fun d ⟨k, hk, e⟩ => ⟨k, by omega, e⟩) dn_nil
theorem ok_open_deeds (B : Bl mg) (C_lows_of : Cal P w K mg base 2 "lows_of" p_lows_of (spD K (fLows lows))) (C_highs_of : Cal P w K mg base 2 "highs_of" p_highs_of (spD K (fLows highs))) (F : Fun K "open_deeds" "open_deeds" s_open_deeds f fd) : FnOk P w K mg base CX0 3 f fd p_open_deeds (spD K fDeeds) := by
  refine fun_d F sc_open_deeds (fun ds R h => ?_) fun cdv A outer s H E hr ds R h => ?_
  · obtain ⟨n, hs, x, y, z, rfl, _⟩ := h; rfl
  · obtain ⟨n, hs, x, y, z, rfl, ⟨hw, hx, hy, hz⟩, hR⟩ := h
    have h1 := hw.small
    refine db_eq (d := .list ((deeds n hs x y z).map encD)) ?_ hR
    refine db_asg (i := 4) (ps_lcF (own := [("field", 5)]) (L := lows n hs z) (enc := fun (k : Nat) => .int k) (q := fun f => decide (z.getD f 0 + 2 ≤ y.getD f 0)) (f := fun f => encD (f, 2)) rfl sc_open_deeds.nd rfl rfl (sw_true rfl rfl rfl (by decide +kernel)) (blkOk_by (by kernel_rfl)) (di_listE (de_callC C_lows_of hr (by decide) (das_cons (de_var 0 rfl) (das_cons (de_var 3 rfl) das_nil)) ⟨n, hs, z, rfl, ⟨hw, hz⟩, rfl⟩)) rfl (fun _ _ _ _ _ => pg_name (i := 5) sc_open_deeds.nd rfl (by first | exact Or.inl rfl | exact Or.inr rfl)) (fun _ _ => tgN 5) (sz6 (by have := lows_le n hs z; omega)) (fun _ _ _ _ _ a ha => (dt_le (de_add (de_ixT (de_var 3 rfl) (de_var 5 rfl) (getI (by rw [hz]; exact lows_lt ha))) de_int) (de_ixT (de_var 2 rfl) (de_var 5 rfl) (getI (by rw [hy]; exact lows_lt ha))))) (fun _ _ _ _ _ a ha hp => (de_tup (das_cons (de_var 5 rfl) (das_cons de_int das_nil)) (show 2 ≤ sizeLine by decide)))) ?_
    rintro _ rfl
    refine db_ret (de_eq (de_catL (de_var 4 rfl) (de_lcF (own := [("field", 5)]) (L := highs n hs z) (enc := fun (k : Nat) => .int k) (q := fun f => decide (x.getD f 0 ≤ z.getD f 0 - 2)) (f := fun f => encD (f, -2)) rfl sc_open_deeds.nd (blkOk_by (by kernel_rfl)) (di_listE (de_callC C_highs_of hr (by decide) (das_cons (de_var 0 rfl) (das_cons (de_var 3 rfl) das_nil)) ⟨n, hs, z, rfl, ⟨hw, hz⟩, rfl⟩)) rfl (fun _ _ _ _ _ => pg_name (i := 5) sc_open_deeds.nd rfl (by first | exact Or.inl rfl | exact Or.inr rfl)) (fun _ _ => tgN 5) (sz6 (by have := highs_le n hs z; omega)) (fun _ _ _ _ _ a ha => (dt_ge (de_sub (de_ixT (de_var 3 rfl) (de_var 5 rfl) (getI (by rw [hz]; exact highs_lt ha))) de_int) (de_ixT (de_var 1 rfl) (de_var 5 rfl) (getI (by rw [hx]; exact highs_lt ha))))) (fun _ _ _ _ _ a ha hp => (de_tup (das_cons (de_var 5 rfl) (das_cons (de_neg de_int) das_nil)) (show 2 ≤ sizeLine by decide)))) ?_) ?_)
    · rw [List.length_map, List.length_map, sizeLine_eq]
      have a1 := lows_le n hs z
      have a2 := highs_le n hs z
      have a3 := List.length_filter_le (fun f => decide (z.getD f 0 + 2 ≤ y.getD f 0)) (lows n hs z)
      have a4 := List.length_filter_le (fun f => decide (x.getD f 0 ≤ z.getD f 0 - 2)) (highs n hs z)
      omega
    · unfold deeds
      rw [List.map_append, List.map_map, List.map_map]
      rfl
theorem ok_need_all (B : Bl mg) (C_need_web : Cal P w K mg base 5 "need_web" p_need_web (spD K fNone)) (C_need_laying : Cal P w K mg base 4 "need_laying" p_need_laying (spD K (fNone1 Lay))) (C_need_bounds : Cal P w K mg base 8 "need_bounds" p_need_bounds (spD K fBnd)) (C_need_worths : Cal P w K mg base 3 "need_worths" p_need_worths (spD K fWs)) (F : Fun K "need_all" "need_all" s_need_all f fd) : FnOk P w K mg base CX0 9 f fd p_need_all (spD K fAll) := by
  refine fun_n F sc_need_all (fun ds R h => ?_) (fun ds R h => ?_) fun cdv A outer s H E hr ds R h => ?_
  · obtain ⟨n, hs, x, y, v, rfl, _⟩ := h; rfl
  · obtain ⟨n, hs, x, y, v, rfl, _, hR⟩ := h; exact hR
  · obtain ⟨n, hs, x, y, v, rfl, ⟨hq, hv⟩, hR⟩ := h
    have hw := hq.1.1.1
    refine dn_expr (P := fun _ => True) (de_callC C_need_web hr (by decide) (das_cons (de_var 0 rfl) das_nil) ⟨n, hs, rfl, hw, trivial⟩) ?_
    refine dn_expr (P := fun _ => True) (de_callC C_need_laying hr (by decide) (das_cons (de_var 0 rfl) (das_cons (de_var 1 rfl) das_nil)) ⟨n, hs, x, rfl, ⟨hw, hq.1.1.2.1⟩, trivial⟩) ?_
    refine dn_expr (P := fun _ => True) (de_callC C_need_laying hr (by decide) (das_cons (de_var 0 rfl) (das_cons (de_var 2 rfl) das_nil)) ⟨n, hs, y, rfl, ⟨hw, hq.1.1.2.2.1⟩, trivial⟩) ?_
    refine dn_expr (P := fun _ => True) (de_callC C_need_worths hr (by decide) (das_cons (de_var 0 rfl) (das_cons (de_var 3 rfl) das_nil)) ⟨n, hs, v, rfl, ⟨hw, hv⟩, trivial⟩) ?_
    exact dn_expr (P := fun _ => True) (de_callC C_need_bounds hr (by decide) (das_cons (de_var 0 rfl) (das_cons (de_var 1 rfl) (das_cons (de_var 2 rfl) das_nil))) ⟨n, hs, x, y, rfl, hq.1, trivial⟩) dn_nil
theorem ok_worth_of (B : Bl mg) (F : Fun K "worth_of" "worth_of" s_worth_of f fd) : FnOk P w K mg base CX0 1 f fd p_worth_of (spD K fWo) := by
  refine fun_d F sc_worth_of (fun ds R h => ?_) fun cdv A outer s H E hr ds R h => ?_
  · obtain ⟨x, v, rfl, _⟩ := h; rfl
  · obtain ⟨x, v, rfl, ⟨hz, hv⟩, hR⟩ := h
    refine db_ret (de_sumL (P := fun ns => ns = (x.zip v).map fun p => p.1 * p.2) rfl B.b_sum (de_imp (de_lcG (own := [("height", 2), ("worth", 3)]) (L := x.zip v) (enc := fun p => .tuple [.int p.1, .int p.2]) (f := fun p => .int (p.1 * p.2)) rfl sc_worth_of.nd (blkOk_by (by kernel_rfl)) (di_zipT B.b_zip (de_var 0 rfl) (de_var 1 rfl)) (zipP_ints x v) (fun _ _ _ _ _ => pg_tup rfl (pgs_cons (pg_name (i := 2) sc_worth_of.nd rfl (by first | exact Or.inl rfl | exact Or.inr rfl)) (pgs_cons (pg_name (i := 3) sc_worth_of.nd rfl (by first | exact Or.inl rfl | exact Or.inr rfl)) pgs_nil))) (fun _ _ => tg2 2 3) (sz6 (by rw [List.length_zip]; omega)) (fun _ _ _ _ _ a ha => (de_mul (de_var 2 rfl) (de_var 3 rfl) (.inr (by have := hv _ (List.of_mem_zip ha).2; omega))))) fun d e => ⟨_, rfl, by rw [e, List.map_map]; rfl⟩) ?_)
    rintro ns rfl
    exact hR
theorem ok_some_of (B : Bl mg) (C_layings_between : Cal P w K mg base 4 "layings_between" p_layings_between (spD K fBetween)) (F : Fun K "some_of" "some_of" s_some_of f fd) : FnOk P w K mg base CX0 5 f fd p_some_of (spD K fSome) := by
  refine fun_d F sc_some_of (fun ds R h => ?_) fun cdv A outer s H E hr ds R h => ?_
  · obtain ⟨n, hs, x, y, rfl, _⟩ := h; rfl
  · obtain ⟨n, hs, x, y, rfl, hq, hR⟩ := h
    refine db_set 3 sc_some_of.nd (P := fun d => ∃ L, IsAll n hs x y L ∧ d = dLs L) (de_callC C_layings_between hr (by decide) (das_cons (de_var 0 rfl) (das_cons (de_var 1 rfl) (das_cons (de_var 2 rfl) (das_cons (de_globE B.c_MOST_LISTED) das_nil)))) ⟨n, hs, x, y, rfl, hq, fun L hL => ⟨L, hL, rfl⟩⟩) ?_
    rintro _ ⟨L, hL, rfl⟩
    refine db_ifFE (dt_gt (de_lenE B.b_len (de_var 3 rfl)) (de_globE B.c_MOST_LISTED)) ?_ ?_
    · rw [List.length_map]; have := hL.le hq; simp; omega
    exact db_imp (db_ret (de_var 3 rfl)) fun d e => e ▸ hR L hL
theorem ok_within (B : Bl mg) (C_need_bounds : Cal P w K mg base 8 "need_bounds" p_need_bounds (spD K fBnd)) (C_layings_between : Cal P w K mg base 4 "layings_between" p_layings_between (spD K fBetween)) (F : Fun K "within" "within" s_within f fd) : FnOk P w K mg base CX0 9 f fd p_within (spD K fSome) := by
  refine fun_d F sc_within (fun ds R h => ?_) fun cdv A outer s H E hr ds R h => ?_
  · obtain ⟨n, hs, x, y, rfl, _⟩ := h; rfl
  · obtain ⟨n, hs, x, y, rfl, hq, hR⟩ := h
    refine db_expr (P := fun _ => True) (de_callC C_need_bounds hr (by decide) (das_cons (de_var 0 rfl) (das_cons (de_var 1 rfl) (das_cons (de_var 2 rfl) das_nil))) ⟨n, hs, x, y, rfl, hq.1, trivial⟩) ?_
    refine db_set 3 sc_within.nd (P := fun d => ∃ L, IsAll n hs x y L ∧ d = dLs L) (de_callC C_layings_between hr (by decide) (das_cons (de_var 0 rfl) (das_cons (de_var 1 rfl) (das_cons (de_var 2 rfl) (das_cons (de_globE B.c_MOST_LISTED) das_nil)))) ⟨n, hs, x, y, rfl, hq, fun L hL => ⟨L, hL, rfl⟩⟩) ?_
    rintro _ ⟨L, hL, rfl⟩
    refine db_ifFE (dt_gt (de_lenE B.b_len (de_var 3 rfl)) (de_globE B.c_MOST_LISTED)) ?_ ?_
    · rw [List.length_map]; have := hL.le hq; simp; omega
    exact db_imp (db_ret (de_var 3 rfl)) fun d e => e ▸ hR L hL
theorem ok_best_worth (B : Bl mg) (C_need_all : Cal P w K mg base 9 "need_all" p_need_all (spD K fAll)) (C_worth_of : Cal P w K mg base 1 "worth_of" p_worth_of (spD K fWo)) (C_some_of : Cal P w K mg base 5 "some_of" p_some_of (spD K fSome)) (F : Fun K "best_worth" "best_worth" s_best_worth f fd) : FnOk P w K mg base CX0 10 f fd p_best_worth (spD K fBest) := by
  refine fun_d F sc_best_worth (fun ds R h => ?_) fun cdv A outer s H E hr ds R h => ?_
  · obtain ⟨n, hs, x, y, v, rfl, _⟩ := h; rfl
  · obtain ⟨n, hs, x, y, v, rfl, ⟨hq, hv⟩, hR⟩ := h
    have hw := hq.1.1.1
    refine db_expr (P := fun _ => True) (de_callC C_need_all hr (by decide) (das_cons (de_var 0 rfl) (das_cons (de_var 1 rfl) (das_cons (de_var 2 rfl) (das_cons (de_var 3 rfl) das_nil)))) ⟨n, hs, x, y, v, rfl, ⟨hq, hv⟩, trivial⟩) ?_
    refine db_ret (de_maxL (P := fun ns => ∃ L, IsAll n hs x y L ∧ ns = L.map fun z => wo z v) rfl B.b_max (de_imp (de_lcP (own := [("laying", 4)]) (P := IsAll n hs x y) (A := Btw n hs x y) (enc := dTs) (f := fun z => .int (wo z v)) rfl sc_best_worth.nd (blkOk_by (by kernel_rfl)) (di_listP (de_callC C_some_of hr (by decide) (das_cons (de_var 0 rfl) (das_cons (de_var 1 rfl) (das_cons (de_var 2 rfl) das_nil))) ⟨n, hs, x, y, rfl, hq, fun L hL => ⟨L, hL, rfl⟩⟩)) (fun _ _ _ _ _ => pg_name (i := 4) sc_best_worth.nd rfl (by first | exact Or.inl rfl | exact Or.inr rfl)) (fun _ _ => tgN 4) (fun L hL a ha => (hL.all a).mp ha) (fun L hL => sz6 (by have := hL.le hq; omega))
      (fun _ _ _ _ _ a ha => (de_callC C_worth_of hr (by decide) (das_cons (de_var 4 rfl) (das_cons (de_var 3 rfl) das_nil)) ⟨a, v, rfl, ⟨ha.sz hw, hv.bnd⟩, rfl⟩))) ?_) ?_ ?_)
    · rintro _ ⟨L, hL, rfl⟩
      exact ⟨_, ⟨L, hL, rfl⟩, by rw [List.map_map]; rfl⟩
    · rintro _ ⟨L, hL, rfl⟩
      rw [List.length_map]; exact hL.pos hq
    · rintro _ m ⟨L, hL, rfl⟩ hm
      exact hR m (hL.max hm)
theorem ok_best_number (B : Bl mg) (C_need_all : Cal P w K mg base 9 "need_all" p_need_all (spD K fAll)) (C_worth_of : Cal P w K mg base 1 "worth_of" p_worth_of (spD K fWo)) (C_some_of : Cal P w K mg base 5 "some_of" p_some_of (spD K fSome)) (F : Fun K "best_number" "best_number" s_best_number f fd) : FnOk P w K mg base CX0 10 f fd p_best_number (spD K fNumber) := by
  refine fun_d F sc_best_number (fun ds R h => ?_) fun cdv A outer s H E hr ds R h => ?_
  · obtain ⟨n, hs, x, y, v, rfl, _⟩ := h; rfl
  · obtain ⟨n, hs, x, y, v, rfl, ⟨hq, hv⟩, hR⟩ := h
    have hw := hq.1.1.1
    refine db_expr (P := fun _ => True) (de_callC C_need_all hr (by decide) (das_cons (de_var 0 rfl) (das_cons (de_var 1 rfl) (das_cons (de_var 2 rfl) (das_cons (de_var 3 rfl) das_nil)))) ⟨n, hs, x, y, v, rfl, ⟨hq, hv⟩, trivial⟩) ?_
    refine db_set 4 sc_best_number.nd (de_lcP (own := [("laying", 5)]) (P := IsAll n hs x y) (A := Btw n hs x y) (enc := dTs) (f := fun z => .int (wo z v)) rfl sc_best_number.nd (blkOk_by (by kernel_rfl)) (di_listP (de_callC C_some_of hr (by decide) (das_cons (de_var 0 rfl) (das_cons (de_var 1 rfl) (das_cons (de_var 2 rfl) das_nil))) ⟨n, hs, x, y, rfl, hq, fun L hL => ⟨L, hL, rfl⟩⟩)) (fun _ _ _ _ _ => pg_name (i := 5) sc_best_number.nd rfl (by first | exact Or.inl rfl | exact Or.inr rfl)) (fun _ _ => tgN 5) (fun L hL a ha => (hL.all a).mp ha) (fun L hL => sz6 (by have := hL.le hq; omega)) 
      (fun _ _ _ _ _ a ha => (de_callC C_worth_of hr (by decide) (das_cons (de_var 5 rfl) (das_cons (de_var 3 rfl) das_nil)) ⟨a, v, rfl, ⟨ha.sz hw, hv.bnd⟩, rfl⟩))) ?_
    rintro _ ⟨L, hL, rfl⟩
    obtain ⟨m, hm⟩ := has_max (L.map fun z => wo z v) (by rw [List.length_map]; exact hL.pos hq)
    refine db_imp (db_ret (de_lenE B.b_len (de_lcF (own := [("many", 6)]) (L := L) (enc := fun z => .int (wo z v)) (q := fun z => decide (wo z v = m)) (f := fun _ => .int 1) rfl sc_best_number.nd (blkOk_by (by kernel_rfl)) (di_listE (de_var 4 rfl)) rfl (fun _ _ _ _ _ => pg_name (i := 6) sc_best_number.nd rfl (by first | exact Or.inl rfl | exact Or.inr rfl)) (fun _ _ => tgN 6) (sz6 (by have := hL.le hq; omega)) (fun _ _ _ _ _ a ha => (dt_eqI (de_var 6 rfl) (de_maxL (P := fun ns => ns = L.map fun z => wo z v) rfl B.b_max (de_imp (de_var 4 rfl) fun d e => ⟨_, rfl, by rw [e, List.map_map]; rfl⟩) (by rintro _ rfl; rw [List.length_map]; exact hL.pos hq) (by rintro _ k rfl hk; rw [hk.uniq hm])))) (fun _ _ _ _ _ a ha hp => de_int)))) ?_
    rintro d rfl
    rw [List.length_map]
    exact hR m _ (hL.max hm) hL.told
theorem ok_shows_best (B : Bl mg) (C_is_laying_of : Cal P w K mg base 3 "is_laying_of" p_is_laying_of (spD K (fBool1 Lay))) (C_lies_between : Cal P w K mg base 1 "lies_between" p_lies_between (spD K fLies)) (C_worth_of : Cal P w K mg base 1 "worth_of" p_worth_of (spD K fWo)) (C_best_worth : Cal P w K mg base 10 "best_worth" p_best_worth (spD K fBest)) (F : Fun K "shows_best" "shows_best" s_shows_best f fd) : FnOk P w K mg base CX0 11 f fd p_shows_best (spD K fShows) := by
  refine fun_d F sc_shows_best (fun ds R h => ?_) fun cdv A outer s H E hr ds R h => ?_
  · obtain ⟨n, hs, x, y, v, z, rfl, _⟩ := h; rfl
  · obtain ⟨n, hs, x, y, v, z, rfl, ⟨hq, hv, hz⟩, hR⟩ := h
    have hw := hq.1.1.1
    have hx := hq.1.1.2.1
    have hy := hq.1.1.2.2.1
    have h1 := hw.small
    have h2 := hw.pos
    have e1 := hx.len
    have e2 := hy.len
    have e3 := hz.len
    refine db_set 5 sc_shows_best.nd (P := fun d => ∃ m, IsBest n hs x y v m ∧ d = .int m) (de_callC C_best_worth hr (by decide) (das_cons (de_var 0 rfl) (das_cons (de_var 1 rfl) (das_cons (de_var 2 rfl) (das_cons (de_var 3 rfl) das_nil)))) ⟨n, hs, x, y, v, rfl, ⟨hq, hv⟩, fun m hm => ⟨m, hm, rfl⟩⟩) ?_
    rintro _ ⟨m, hm, rfl⟩
    refine db_if (b := !true || (!decide ((z.getD 0 0 - x.getD 0 0) % 2 = 0) || !inB x y z)) (dt_w (dw_or (dt_not (dt_val (de_callC C_is_laying_of hr (by decide) (das_cons (de_var 0 rfl) (das_cons (de_var 4 rfl) das_nil)) ⟨n, hs, z, rfl, ⟨hw, hz⟩, rfl⟩))) fun _ => (dw_or (dt_neI (de_mod (de_sub (de_ixT (de_var 4 rfl) de_int (getI0 hw hz)) (de_ixT (de_var 1 rfl) de_int (getI0 hw hx))) de_int (by decide)) de_int) fun _ => (dw_or1 (dt_not (dt_val (de_callC C_lies_between hr (by decide) (das_cons (de_var 1 rfl) (das_cons (de_var 2 rfl) (das_cons (de_var 4 rfl) das_nil))) ⟨x, y, z, rfl, by omega, rfl⟩))))))) (fun hb => ?_) (fun hb => ?_)
    · refine db_imp (db_ret de_bl) ?_
      rintro d rfl
      refine hR m false hm ⟨fun e => (by cases e), fun ⟨b, _⟩ => ?_⟩
      rw [(inB_iff e1 e2 e3).mpr b.btw, decide_eq_true b.par] at hb
      cases hb
    · refine db_imp (db_ret (de_eqI (de_callC C_worth_of hr (by decide) (das_cons (de_var 4 rfl) (das_cons (de_var 3 rfl) das_nil)) ⟨z, v, rfl, ⟨by omega, hv.bnd⟩, rfl⟩) (de_var 5 rfl))) ?_
      rintro d rfl
      refine hR m _ hm ⟨fun e => ⟨⟨hz, ?_, ?_⟩, of_decide_eq_true e⟩, fun e => decide_eq_true e.2⟩
      · rcases Decidable.em ((z.getD 0 0 - x.getD 0 0) % 2 = 0) with q | q
        · exact q
        · rw [decide_eq_false q] at hb; cases hb
      · refine (inB_iff e1 e2 e3).mp ?_
        cases q : inB x y z with
        | true => rfl
        | false => rw [q] at hb; simp at hb
theorem ok_worth_gain (B : Bl mg) (C_need_web : Cal P w K mg base 5 "need_web" p_need_web (spD K fNone)) (C_need_laying : Cal P w K mg base 4 "need_laying" p_need_laying (spD K (fNone1 Lay))) (C_need_two : Cal P w K mg base 7 "need_two" p_need_two (spD K fTwo)) (C_lies_between : Cal P w K mg base 1 "lies_between" p_lies_between (spD K fLies)) (C_need_worths : Cal P w K mg base 3 "need_worths" p_need_worths (spD K fWs)) (C_worth_of : Cal P w K mg base 1 "worth_of" p_worth_of (spD K fWo)) (C_best_worth : Cal P w K mg base 10 "best_worth" p_best_worth (spD K fBest)) (F : Fun K "worth_gain" "worth_gain" s_worth_gain f fd) : FnOk P w K mg base CX0 11 f fd p_worth_gain (spD K fGain) := by
  refine fun_d F sc_worth_gain (fun ds R h => ?_) fun cdv A outer s H E hr ds R h => ?_
  · obtain ⟨n, hs, x, y, v, z, rfl, _⟩ := h; rfl
  · obtain ⟨n, hs, x, y, v, z, rfl, ⟨hq, hv, hz⟩, hR⟩ := h
    have hw := hq.1.1.1
    have hx := hq.1.1.2.1
    have hy := hq.1.1.2.2.1
    have h1 := hw.small
    have h2 := hw.pos
    have e1 := hx.len
    have e2 := hy.len
    have e3 := hz.lay.len
    refine db_expr (P := fun _ => True) (de_callC C_need_web hr (by decide) (das_cons (de_var 0 rfl) das_nil) ⟨n, hs, rfl, hw, trivial⟩) ?_
    refine db_expr (P := fun _ => True) (de_callC C_need_laying hr (by decide) (das_cons (de_var 0 rfl) (das_cons (de_var 1 rfl) das_nil)) ⟨n, hs, x, rfl, ⟨hw, hx⟩, trivial⟩) ?_
    refine db_expr (P := fun _ => True) (de_callC C_need_laying hr (by decide) (das_cons (de_var 0 rfl) (das_cons (de_var 2 rfl) das_nil)) ⟨n, hs, y, rfl, ⟨hw, hy⟩, trivial⟩) ?_
    refine db_expr (P := fun _ => True) (de_callC C_need_worths hr (by decide) (das_cons (de_var 0 rfl) (das_cons (de_var 3 rfl) das_nil)) ⟨n, hs, v, rfl, ⟨hw, hv⟩, trivial⟩) ?_
    refine db_expr (P := fun _ => True) (de_callC C_need_laying hr (by decide) (das_cons (de_var 0 rfl) (das_cons (de_var 4 rfl) das_nil)) ⟨n, hs, z, rfl, ⟨hw, hz.lay⟩, trivial⟩) ?_
    refine db_expr (P := fun _ => True) (de_callC C_need_two hr (by decide) (das_cons (de_var 0 rfl) (das_cons (de_var 1 rfl) (das_cons (de_var 4 rfl) das_nil))) ⟨n, hs, x, z, rfl, ⟨hw, hx, hz.lay, by have := hz.par; omega⟩, trivial⟩) ?_
    refine db_set 5 sc_worth_gain.nd (P := fun d => ∃ m, IsBest n hs x y v m ∧ d = .int m) (de_callC C_best_worth hr (by decide) (das_cons (de_var 0 rfl) (das_cons (de_var 1 rfl) (das_cons (de_var 2 rfl) (das_cons (de_var 3 rfl) das_nil)))) ⟨n, hs, x, y, v, rfl, ⟨hq, hv⟩, fun m hm => ⟨m, hm, rfl⟩⟩) ?_
    rintro _ ⟨m, hm, rfl⟩
    refine db_ifFE (x := !inB x y z) (dt_not (dt_val (de_callC C_lies_between hr (by decide) (das_cons (de_var 1 rfl) (das_cons (de_var 2 rfl) (das_cons (de_var 4 rfl) das_nil))) ⟨x, y, z, rfl, by omega, rfl⟩))) (by rw [(inB_iff e1 e2 e3).mpr hz.btw]; rfl) ?_
    refine db_imp (db_ret (de_sub (de_var 5 rfl) (de_callC C_worth_of hr (by decide) (das_cons (de_var 4 rfl) (das_cons (de_var 3 rfl) das_nil)) ⟨z, v, rfl, ⟨by omega, hv.bnd⟩, rfl⟩))) ?_
    rintro d rfl
    exact hR m hm
theorem ok_law_lows (B : Bl mg) (C_law_nears : Cal P w K mg base 1 "_law_nears" p_law_nears (spD K fNears)) (F : Fun K "_law_lows" "_law_lows" s_law_lows f fd) : FnOk P w K mg base CX0 2 f fd p_law_lows (spD K (fLowsL lows)) := by
  refine fun_d F sc_law_lows (fun ds R h => ?_) fun cdv A outer s H E hr ds R h => ?_
  · obtain ⟨n, hs, x, rfl, _⟩ := h; rfl
  · obtain ⟨n, hs, x, rfl, ⟨hw, hl⟩, hR⟩ := h
    refine db_eq (d := dNs (lows n hs x)) ?_ hR
    have h1 := hw.small
    refine db_setE 2 sc_law_lows.nd (d := dNear n hs) (de_callC C_law_nears hr (by decide) (das_cons (de_var 0 rfl) das_nil) ⟨n, hs, rfl, hw.r, rfl⟩) ?_
    refine db_ret (de_eq (de_lcF (own := [("_law_field", 3)]) (L := List.range n) (enc := fun (k : Nat) => .int k) (q := fun k => ((nbr hs k).filter fun g => decide (x.getD g 0 < x.getD k 0)).isEmpty) (f := fun (k : Nat) => .int k) rfl sc_law_lows.nd (blkOk_by (by kernel_rfl)) (di_range1 B.b_range (de_ixT (de_var 0 rfl) de_int rfl) (by omega) (by omega)) (rng_nat n) (fun _ _ _ _ _ => pg_name (i := 3) sc_law_lows.nd rfl (by first | exact Or.inl rfl | exact Or.inr rfl)) (fun _ _ => tgN 3) (sz6 (by rw [List.length_range]; omega)) (fun _ _ _ _ _ a ha => (dt_eq (dt_eqD (hu64 hr) (de_lcF (own := [("_law_near", 4)]) (L := nbr hs a) (enc := fun (k : Nat) => .int k) (q := fun g => decide (x.getD g 0 < x.getD a 0)) (f := fun (k : Nat) => .int k) rfl sc_law_lows.nd (blkOk_by (by kernel_rfl)) (di_listE (de_ixL (de_var 2 rfl) (de_var 3 rfl) (near_at (List.mem_range.mp ha)))) rfl (fun _ _ _ _ _ => pg_name (i := 4) sc_law_lows.nd rfl (by first | exact Or.inl rfl | exact Or.inr rfl)) (fun _ _ => tgN 4) (nbr_sz hw a) (fun _ _ _ _ _ b hb => (dt_lt (de_ixT (de_var 1 rfl) (de_var 4 rfl) (getI (by rw [hl.len]; exact nbr_lt hw hb))) (de_ixT (de_var 1 rfl) (de_var 3 rfl) (getI (by rw [hl.len]; exact List.mem_range.mp ha))))) (fun _ _ _ _ _ a ha hp => (de_var 4 rfl))) (de_lst das_nil) (sh_dNs _).shaped sh_nil.shaped) (by rw [eqv_nil, List.isEmpty_map]))) (fun _ _ _ _ _ a ha hp => (de_var 3 rfl))) ?_)
    congr 1
    congr 1
    unfold lows
    refine List.filter_congr fun k hk => ?_
    rw [filter_empty]
    refine all_congr fun g hg => ?_
    have := adj_step hl (mem_nbr.mp hg)
    by_cases q : x.getD g 0 < x.getD k 0
    · rw [decide_eq_true q, decide_eq_false (by omega)]; rfl
    · rw [decide_eq_false q, decide_eq_true (by omega)]; rfl
theorem ok_law_highs (B : Bl mg) (C_law_nears : Cal P w K mg base 1 "_law_nears" p_law_nears (spD K fNears)) (F : Fun K "_law_highs" "_law_highs" s_law_highs f fd) : FnOk P w K mg base CX0 2 f fd p_law_highs (spD K (fLowsL highs)) := by
  refine fun_d F sc_law_highs (fun ds R h => ?_) fun cdv A outer s H E hr ds R h => ?_
  · obtain ⟨n, hs, x, rfl, _⟩ := h; rfl
  · obtain ⟨n, hs, x, rfl, ⟨hw, hl⟩, hR⟩ := h
    refine db_eq (d := dNs (highs n hs x)) ?_ hR
    have h1 := hw.small
    refine db_setE 2 sc_law_highs.nd (d := dNear n hs) (de_callC C_law_nears hr (by decide) (das_cons (de_var 0 rfl) das_nil) ⟨n, hs, rfl, hw.r, rfl⟩) ?_
    refine db_ret (de_eq (de_lcF (own := [("_law_field", 3)]) (L := List.range n) (enc := fun (k : Nat) => .int k) (q := fun k => ((nbr hs k).filter fun g => decide (x.getD k 0 < x.getD g 0)).isEmpty) (f := fun (k : Nat) => .int k) rfl sc_law_highs.nd (blkOk_by (by kernel_rfl)) (di_range1 B.b_range (de_ixT (de_var 0 rfl) de_int rfl) (by omega) (by omega)) (rng_nat n) (fun _ _ _ _ _ => pg_name (i := 3) sc_law_highs.nd rfl (by first | exact Or.inl rfl | exact Or.inr rfl)) (fun _ _ => tgN 3) (sz6 (by rw [List.length_range]; omega)) (fun _ _ _ _ _ a ha => (dt_eq (dt_eqD (hu64 hr) (de_lcF (own := [("_law_near", 4)]) (L := nbr hs a) (enc := fun (k : Nat) => .int k) (q := fun g => decide (x.getD a 0 < x.getD g 0)) (f := fun (k : Nat) => .int k) rfl sc_law_highs.nd (blkOk_by (by kernel_rfl)) (di_listE (de_ixL (de_var 2 rfl) (de_var 3 rfl) (near_at (List.mem_range.mp ha)))) rfl (fun _ _ _ _ _ => pg_name (i := 4) sc_law_highs.nd rfl (by first | exact Or.inl rfl | exact Or.inr rfl)) (fun _ _ => tgN 4) (nbr_sz hw a) (fun _ _ _ _ _ b hb => (dt_gt (de_ixT (de_var 1 rfl) (de_var 4 rfl) (getI (by rw [hl.len]; exact nbr_lt hw hb))) (de_ixT (de_var 1 rfl) (de_var 3 rfl) (getI (by rw [hl.len]; exact List.mem_range.mp ha))))) (fun _ _ _ _ _ a ha hp => (de_var 4 rfl))) (de_lst das_nil) (sh_dNs _).shaped sh_nil.shaped) (by rw [eqv_nil, List.isEmpty_map]))) (fun _ _ _ _ _ a ha hp => (de_var 3 rfl))) ?_)
    congr 1
    congr 1
    unfold highs
    refine List.filter_congr fun k hk => ?_
    rw [filter_empty]
    refine all_congr fun g hg => ?_
    have := adj_step hl (mem_nbr.mp hg)
    by_cases q : x.getD k 0 < x.getD g 0
    · rw [decide_eq_true q, decide_eq_false (by omega)]; rfl
    · rw [decide_eq_false q, decide_eq_true (by omega)]; rfl
theorem ok_law_changed (B : Bl mg) (F : Fun K "_law_changed" "_law_changed" s_law_changed f fd) : FnOk P w K mg base CX0 1 f fd p_law_changed (spD K fChg) := by
  refine fun_d F sc_law_changed (fun ds R h => ?_) fun cdv A outer s H E hr ds R h => ?_
  · obtain ⟨x, g, b, rfl, _⟩ := h; rfl
  · obtain ⟨x, g, b, rfl, ⟨hg, hz⟩, hR⟩ := h
    refine db_eq (d := dTs (chg x g b)) ?_ hR
    have len : ∀ (lo hi : Option Int), (cutP (x.map .int) lo hi).length ≤ 1000 := fun lo hi => by
      unfold cutP
      rw [List.length_take, List.length_drop, List.length_map]
      omega
    refine db_ret (de_eq (de_cat (de_cat (de_sliceT (de_var 0 rfl) do_none (do_some (de_var 1 rfl))) (de_tup (ds := [.int (x.getD g 0 + b)]) (das_cons (de_add (de_ixT (de_var 0 rfl) (de_var 1 rfl) (getI hg)) (de_var 2 rfl)) das_nil) (show 1 ≤ sizeLine by decide)) ?_) (de_sliceT (de_var 0 rfl) (do_some (de_add (de_var 1 rfl) de_int)) do_none) ?_) ?_)
    · rw [sizeLine_eq]; have := len none (some ((g : Nat) : Int)); simp; omega
    · rw [sizeLine_eq, List.length_append]; have := len none (some ((g : Nat) : Int)); have := len (some (((g : Nat) : Int) + 1)) none; simp; omega
    · rw [cut_chg hg]
end
end TW
/-! TWZ: zip over any number of tuples of one length. -/
namespace TW
open PySem PySem.Spec PyProof.Rows L2
abbrev IsZ (h : Heap) (z TI TO : Addr) (f0 : Value) (b : Bool) : Prop := h.get? z = some { cls := .type "zip", dict := none, data := .fields #[f0, .bool b, .bool false, .ref TI, .ref TO], slots := #[] }
abbrev IsT (h : Heap) (T : Addr) (vs : List Value) : Prop := h.get? T = some { cls := .type "tuple", data := .seq vs.toArray }
/-- the iterator of a list (true), of a tuple (false), and what it walks -/
def SIt (b : Bool) (h : Heap) (it l : Addr) (i : Nat) : Prop := match b with
  | true => h.IsListIter it l i
  | false => h.IsTupleIter it l i
def SSq (b : Bool) (h : Heap) (l : Addr) (t : Array Value) : Prop := match b with
  | true => h.IsList l t
  | false => h.IsTuple l t
theorem SIt.at {b : Bool} {h h' : Heap} {it l : Addr} {i : Nat} (x : SIt b h it l i) (k : ∀ o, h.get? it = some o → h'.get? it = some o) : SIt b h' it l i := by
  cases b with
  | true => exact Heap.IsListIter.at x k
  | false => exact Heap.IsTupleIter.at x k
theorem SIt.obj {b : Bool} {h : Heap} {it l : Addr} {i : Nat} (x : SIt b h it l i) : ∃ o, h.get? it = some o ∧ ∀ v, o.data ≠ .cell v := by
  cases b with
  | true => obtain ⟨o, ho, _, d⟩ := x; exact ⟨o, ho, fun v q => by rw [d] at q; cases q⟩
  | false => obtain ⟨o, ho, _, d⟩ := x; exact ⟨o, ho, fun v q => by rw [d] at q; cases q⟩
theorem SSq.at' {b : Bool} {h h' : Heap} {l : Addr} {t : Array Value} (x : SSq b h l t) (k : ∀ o, h.get? l = some o → h'.get? l = some o) : SSq b h' l t := by
  cases b with
  | true => exact Heap.IsList.at x k
  | false => obtain ⟨o, e, c, n, d⟩ := x; exact ⟨o, k o e, c, n, d⟩
/-- the iterators, those below k one further -/
def Its (ks : List Bool) (h : Heap) (its ls : List Addr) (i k : Nat) : Prop := ∀ (j : Nat) (it l : Addr), its[j]? = some it → ls[j]? = some l → SIt (ks.getD j false) h it l (if j < k then i + 1 else i)
def Old (ch : List Addr) (h h' : Heap) : Prop := ∀ c o, c ∉ ch → h.get? c = some o → h'.get? c = some o
theorem Old.refl (ch : List Addr) (h : Heap) : Old ch h h := fun _ _ _ e => e
theorem Old.trans {ch : List Addr} {h h1 h2 : Heap} (a : Old ch h h1) (b : Old ch h1 h2) : Old ch h h2 := fun c o n e => b c o n (a c o n e)
theorem Old.of {ch : List Addr} {h h' : Heap} {a : Addr} (ha : a ∈ ch) (s : Heap.SameBut a h h') : Old ch h h' := fun c o n e => (s.2 c fun q => n (q ▸ ha)).trans e
theorem Old.mono {ch ch' : List Addr} {h h' : Heap} (o : Old ch h h') (hs : ∀ a ∈ ch, a ∈ ch') : Old ch' h h' := fun c ob n e => o c ob (fun q => n (hs c q)) e
theorem Its.step {ks : List Bool} {h h' : Heap} {its ls : List Addr} {i k : Nat} {it l : Addr} (I : Its ks h its ls i k) (nd : its.Nodup) (h1 : its[k]? = some it) (h2 : ls[k]? = some l) (hit : SIt (ks.getD k false) h' it l (i + 1)) (s : Heap.SameBut it h h') : Its ks h' its ls i (k + 1) := by
  intro j it' l' e1 e2
  by_cases hj : j = k
  · subst hj
    rw [h1] at e1; rw [h2] at e2
    cases e1; cases e2
    rw [if_pos (Nat.lt_succ_self _)]
    exact hit
  · have hne : it' ≠ it := fun e => hj (nd_ix nd e1 (e ▸ h1))
    have := I j it' l' e1 e2
    have e3 : (if j < k + 1 then i + 1 else i) = if j < k then i + 1 else i := by
      by_cases q : j < k
      · rw [if_pos q, if_pos (by omega)]
      · rw [if_neg q, if_neg (by omega)]
    rw [e3]
    exact this.at fun o e => (s.2 it' hne).trans e
theorem Its.keep {ks : List Bool} {h h' : Heap} {its ls : List Addr} {i k : Nat} (I : Its ks h its ls i k) (s : ∀ it ∈ its, ∀ o, h.get? it = some o → h'.get? it = some o) : Its ks h' its ls i k := fun j it l e1 e2 => (I j it l e1 e2).at fun o e => s it (List.mem_of_getElem? e1) o e
theorem take_set {α : Type} {xs old : List α} {k : Nat} {x : α} (hl : old.length = xs.length) (hx : xs[k]? = some x) : (xs.take k ++ old.drop k).set k x = xs.take (k + 1) ++ old.drop (k + 1) := by
  have hk : k < xs.length := (List.getElem?_eq_some_iff.mp hx).1
  rw [List.set_append_right _ _ (by rw [List.length_take]; omega)]
  have e : k - (xs.take k).length = 0 := by rw [List.length_take]; omega
  rw [e, List.take_add_one, hx, List.append_assoc]
  congr 1
  have hd : old.drop k = old[k]'(by omega) :: old.drop (k + 1) := List.drop_eq_getElem_cons (by omega)
  rw [hd]
  rfl
section
variable {prog : Program} {w : World} {A : Around} {E : Value → Shared → Prop} {s : Shared} {z TI TO : Addr} {ks : List Bool} {its ls : List Addr} {i : Nat} {xs : List Value} {tps : List (Array Value)}
/-- what stands at the tuples -/
def Tps (ks : List Bool) (h : Heap) (ls : List Addr) (tps : List (Array Value)) : Prop := ∀ (j : Nat) (l : Addr) (t : Array Value), ls[j]? = some l → tps[j]? = some t → SSq (ks.getD j false) h l t
theorem next_item {b : Bool} {it l : Addr} {i : Nat} {items} {x : Value} {Q : Value → Shared → Prop} (hit : SIt b s.heap it l i) (hl : SSq b s.heap l items) (hx : items[i]? = some x)
    (hQ : ∀ h', SIt b h' it l (i + 1) → Heap.SameBut it s.heap h' → Q x { s with heap := h' }) : wpAny (model prog w) A (Builtin.SmallTypes.nextOf (.ref it)) Q E s := by
  cases b with
  | true => exact wpAny_nextOf_list_item hit hl hx hQ
  | false => exact RZ.nextOf_tuple_item hit hl hx hQ
theorem next_end {b : Bool} {it l : Addr} {i : Nat} {items} {Q : Value → Shared → Prop} (hh : A.handled = none) (hit : SIt b s.heap it l i) (hl : SSq b s.heap l items) (hx : items[i]? = none)
    (hE : ∀ h' e, Heap.ExtBut it s.heap h' → (∃ o, h'.get? e = some o ∧ o.cls = .type "StopIteration") → E (.ref e) { s with heap := h' }) : wpAny (model prog w) A (Builtin.SmallTypes.nextOf (.ref it)) Q E s := by
  cases b with
  | true => exact wpAny_nextOf_list_end hh hit hl hx hE
  | false => exact RZ.nextOf_tuple_end hh hit hl hx hE
theorem isTuple_at {h h' : Heap} {l : Addr} {t : Array Value} (hl : h.IsTuple l t) (k : ∀ o, h.get? l = some o → h'.get? l = some o) : h'.IsTuple l t := by
  obtain ⟨o, e, c, n, d⟩ := hl
  exact ⟨o, k o e, c, n, d⟩
theorem updSeq_T {T : Addr} {vs : List Value} {x : Value} {k : Nat} {Q : Unit → Shared → Prop} (hT : IsT s.heap T vs) (hz : vs.length ≤ sizeLine) (h : ∀ h', IsT h' T (vs.set k x) → Heap.SameBut T s.heap h' → Q () { s with heap := h' }) :
    wpAny (model prog w) A (updateSeq T (·.setIfInBounds k x)) Q E s := by
  refine wpAny_updateSeq (hz := by simpa using hz) (_hz' := by rw [Array.size_setIfInBounds]; simp; omega) hT rfl (h _ ?_ (Heap.SameBut.update ..))
  show Heap.get? (s.heap.update T _) T = _
  rw [Heap.get?_update_self _ hT rfl]
  simp only [Obj.mapSeq, Array.size_setIfInBounds, beq_self_eq_true, if_true]
  rw [List.setIfInBounds_toArray]
theorem zipN_free {Q : Value → Shared → Prop} {old : List Value} {f0 : Value} {b0 : Bool} (hfr : ∀ Q : Bool → Shared → Prop, Q true s → wpAny (model prog w) A (Builtin.SmallTypes.ownedTupleIsFree (.ref z)) Q E s) (hne : its ≠ []) (nd : (z :: TI :: TO :: its).Nodup) (hll : ls.length = its.length) (htl : tps.length = its.length) (hlc : ∀ l ∈ ls, l ∉ z :: TO :: its)
    (hz : IsZ s.heap z TI TO f0 b0) (hTI : IsT s.heap TI (its.map Value.ref)) (hTO : IsT s.heap TO old) (hol : old.length = its.length) (hI : Its ks s.heap its ls i 0) (hT : Tps ks s.heap ls tps)
    (hxl : xs.length = its.length) (hx : ∀ (j : Nat) (t : Array Value) (x : Value), tps[j]? = some t → xs[j]? = some x → t[i]? = some x) (hsz : its.length ≤ sizeLine)
    (hQ : ∀ h', IsZ h' z TI TO (rawInt s.heap.objs.size) false → IsT h' TO xs → Its ks h' its ls (i + 1) 0 → IsT h' s.heap.objs.size xs → Old (z :: TO :: its) s.heap h' → Q (.ref s.heap.objs.size) { s with heap := h' }) :
    wpAny (model prog w) A (Builtin.«zip.__next__» ⟨[.ref z], []⟩) (fun fin s' => ∃ v, fin = .done (.ret v) ∧ Q v s') E s := by
  have n1 : z ∉ TI :: TO :: its := (List.nodup_cons.mp nd).1
  have nd2 := (List.nodup_cons.mp (List.nodup_cons.mp nd).2)
  have nd3 := List.nodup_cons.mp nd2.2
  have zTO : z ≠ TO := fun e => n1 (by simp [e])
  have zTI : z ≠ TI := fun e => n1 (by simp [e])
  have TITO : TI ≠ TO := fun e => nd2.1 (by simp [e])
  show wpAny _ _ (field (.ref z) 2 >>= _) _ _ _
  refine wpAny_bind (wpAny_field hz rfl (x := .bool false) rfl ?_)
  show wpAny _ _ (field (.ref z) 3 >>= _) _ _ _
  refine wpAny_bind (wpAny_field hz rfl (x := .ref TI) rfl ?_)
  refine wpAny_bind (wpAny_seqItems hTI rfl ?_)
  dsimp only
  rw [if_neg (by
    cases its with
    | nil => exact absurd rfl hne
    | cons a r => simp)]
  refine wpAny_bind (hfr _ ?_)
  rw [if_pos rfl]
  refine wpAny_bind (wpAny_rule ?_)
  refine wpAny_bind (wpAny_field hz rfl (x := .ref TO) rfl ?_)
  refine wpAny_bind (wpAny_setField_rec hz (by simp) fun h₁ hz₁ hs₁ => ?_)
  replace hz₁ : IsZ h₁ z TI TO .ellipsis b0 := hz₁
  refine wpAny_bind ?_
  refine wpAny_forIn_list _ (fun rest b st => b = (none, ()) ∧ ∃ k h, rest = ((its.map Value.ref).zipIdx).drop k ∧ k ≤ its.length ∧ st = { s with heap := h } ∧ IsZ h z TI TO .ellipsis b0 ∧ IsT h TO (xs.take k ++ old.drop k) ∧ Its ks h its ls i k ∧ h.objs.size = s.heap.objs.size ∧ Old (z :: TO :: its) s.heap h) _ ?_ ?_ _ _ ?_
  · rintro ⟨v, k'⟩ rest b st ⟨rfl, k, h, hr, hk, rfl, hz2, hTO2, hI2, hsz2, ho2⟩
    have hk2 : k < its.length := by
      rcases Nat.lt_or_ge k its.length with q | q
      · exact q
      · rw [List.drop_of_length_le (by simp; omega)] at hr; cases hr
    have hkz : k < ((its.map Value.ref).zipIdx).length := by simp; omega
    rw [List.drop_eq_getElem_cons hkz] at hr
    injection hr with e1 e2
    have e3 : v = Value.ref its[k] ∧ k' = k := by
      have := e1
      simp at this
      exact this
    obtain ⟨rfl, rfl⟩ := e3
    subst e2
    have q1 : its[k']? = some its[k'] := List.getElem?_eq_getElem hk2
    have q2 : ls[k']? = some (ls[k']'(by omega)) := List.getElem?_eq_getElem (by omega)
    have q3 : tps[k']? = some (tps[k']'(by omega)) := List.getElem?_eq_getElem (by omega)
    have q4 : xs[k']? = some (xs[k']'(by omega)) := List.getElem?_eq_getElem (by omega)
    have hit : SIt (ks.getD k' false) h its[k'] (ls[k']'(by omega)) i := by
      have := hI2 k' _ _ q1 q2
      rwa [if_neg (Nat.lt_irrefl _)] at this
    have hltup : SSq (ks.getD k' false) h (ls[k']'(by omega)) (tps[k']'(by omega)) := (hT k' _ _ q2 q3).at' fun o e => ho2 _ o (hlc _ (List.mem_of_getElem? q2)) e
    have mem : its[k'] ∈ its := List.getElem_mem hk2
    refine wpAny_bind (wpAny_onRaise ?_)
    show wpAny _ _ (Builtin.SmallTypes.nextOf (.ref its[k']) >>= _) _ _ _
    refine wpAny_bind (next_item hit hltup (hx k' _ _ q3 q4) fun h₂ hit₂ hs₂ => wpAny_pure ?_)
    have hTO₂ : IsT h₂ TO (xs.take k' ++ old.drop k') := (hs₂.2 TO (fun e => nd3.1 (e ▸ mem))).trans hTO2
    refine wpAny_bind (wpAny_seqItems hTO₂ rfl ?_)
    dsimp only
    refine wpAny_bind (updSeq_T hTO₂ (by simp; omega) fun h₃ hTO₃ hs₃ => ?_)
    rw [take_set (by omega) q4] at hTO₃
    refine wpAny_bind (wpAny_letGo (wpAny_pure ?_))
    refine ⟨rfl, k' + 1, h₃, rfl, hk2, rfl, ?_, hTO₃, ?_, ?_, ?_⟩
    · exact (hs₃.2 z zTO).trans ((hs₂.2 z (fun e => n1 (by rw [e]; simp [mem]))).trans hz2)
    · exact (hI2.step nd3.2 q1 q2 hit₂ hs₂).keep fun it hm o e => (hs₃.2 it (fun q => nd3.1 (q ▸ hm))).trans e
    · exact hs₃.1.trans (hs₂.1.trans hsz2)
    · exact (ho2.trans (Old.of (by simp [mem]) hs₂)).trans (Old.of (by simp) hs₃)
  · rintro b st ⟨rfl, k, h, hr, hk, rfl, hz2, hTO2, hI2, hsz2, ho2⟩
    have hk2 : k = its.length := by
      rcases Nat.lt_or_ge k its.length with q | q
      · rw [List.drop_eq_getElem_cons (by simp; omega)] at hr; cases hr
      · omega
    subst hk2
    rw [List.take_of_length_le (by omega), List.drop_of_length_le (by omega), List.append_nil] at hTO2
    dsimp only
    refine wpAny_bind (wpAny_seqItems hTO2 rfl ?_)
    dsimp only
    refine wpAny_bind (wpAny_newTuple ?_ (by show xs.length ≤ sizeLine; omega))
    have hzlt : z < h.objs.size := Heap.lt_size hz2
    show wpAny _ _ (Builtin.SmallTypes.ownedTupleHandOut (.ref z) (.ref h.objs.size) >>= _) _ _ _
    refine wpAny_bind ?_
    unfold Builtin.SmallTypes.ownedTupleHandOut
    have hz₆ : IsZ (h.push { cls := .type "tuple", data := .seq xs.toArray.toList.toArray }) z TI TO .ellipsis b0 := Heap.get?_push_of_some _ hz2
    refine wpAny_bind (wpAny_setField_rec hz₆ (by simp) fun h₇ hz₇ hs₇ => ?_)
    replace hz₇ : IsZ h₇ z TI TO (rawInt h.objs.size) b0 := hz₇
    refine wpAny_setField_rec hz₇ (by simp) fun h₈ hz₈ hs₈ => ?_
    replace hz₈ : IsZ h₈ z TI TO (rawInt h.objs.size) false := hz₈
    have up : ∀ c o, c ≠ z → h.get? c = some o → h₈.get? c = some o := fun c o c1 e => (hs₈.2 c c1).trans ((hs₇.2 c c1).trans (Heap.get?_push_of_some _ e))
    have hT₈ : IsT h₈ h.objs.size xs := (hs₈.2 _ (Nat.ne_of_gt hzlt)).trans ((hs₇.2 _ (Nat.ne_of_gt hzlt)).trans (Heap.get?_push_size _ rfl))
    rw [hsz2] at hz₈ hT₈
    refine wpAny_pure ⟨_, rfl, ?_⟩
    show Q (.ref h.objs.size) _
    rw [hsz2]
    refine hQ h₈ hz₈ (up _ _ (Ne.symm zTO) hTO2) (fun j it l e1 e2 => ?_) hT₈ fun c o hc e => up c o (fun q => hc (by simp [q])) (ho2 c o hc e)
    have := hI2 j it l e1 e2
    rw [if_pos (List.getElem?_eq_some_iff.mp e1).1] at this
    rw [if_neg (Nat.not_lt_zero _)]
    exact this.at fun o e => up it o (fun q => n1 (by rw [← q]; simp [List.mem_of_getElem? e1])) e
  · refine ⟨rfl, 0, h₁, by simp, Nat.zero_le _, rfl, hz₁, ?_, ?_, hs₁.1, Old.of (by simp) hs₁⟩
    · rw [List.take_zero, List.drop_zero, List.nil_append]
      exact (hs₁.2 TO (Ne.symm zTO)).trans hTO
    · exact hI.keep fun it hm o e => (hs₁.2 it (fun q => n1 (by rw [← q]; simp [hm]))).trans e
theorem tupHeld {T : Addr} {b : Bool} {oT : Obj} {Q : Bool → Shared → Prop} (hz : IsZ s.heap z TI TO (rawInt T) b) (hT : s.heap.get? T = some oT)
    (h : ∀ h', IsZ h' z TI TO (rawInt T) true → Heap.SameBut z s.heap h' → Q false { s with heap := h' }) : wpAny (model prog w) A (Builtin.SmallTypes.ownedTupleIsFree (.ref z)) Q E s := wpAny_tupleHeld_zip hz hT h
theorem zipN_held {Q : Value → Shared → Prop} {T : Addr} {oT : Obj} {b0 : Bool} (hne : its ≠ []) (nd : (z :: TI :: TO :: its).Nodup) (hll : ls.length = its.length) (htl : tps.length = its.length) (hlc : ∀ l ∈ ls, l ∉ z :: TO :: its)
    (hz : IsZ s.heap z TI TO (rawInt T) b0) (hoT : s.heap.get? T = some oT) (hTI : IsT s.heap TI (its.map Value.ref)) {old : List Value} (hTO : IsT s.heap TO old) (hI : Its ks s.heap its ls i 0) (hT : Tps ks s.heap ls tps)
    (hxl : xs.length = its.length) (hx : ∀ (j : Nat) (t : Array Value) (x : Value), tps[j]? = some t → xs[j]? = some x → t[i]? = some x) (hsz : its.length ≤ sizeLine)
    (hQ : ∀ h', IsZ h' z TI TO (rawInt T) true → Its ks h' its ls (i + 1) 0 → IsT h' s.heap.objs.size xs → Old (z :: TO :: its) s.heap h' → IsT h' TO old → Q (.ref s.heap.objs.size) { s with heap := h' }) :
    wpAny (model prog w) A (Builtin.«zip.__next__» ⟨[.ref z], []⟩) (fun fin s' => ∃ v, fin = .done (.ret v) ∧ Q v s') E s := by
  have n1 : z ∉ TI :: TO :: its := (List.nodup_cons.mp nd).1
  have nd2 := (List.nodup_cons.mp (List.nodup_cons.mp nd).2)
  have nd3 := List.nodup_cons.mp nd2.2
  have zTO : z ≠ TO := fun e => n1 (by simp [e])
  show wpAny _ _ (field (.ref z) 2 >>= _) _ _ _
  refine wpAny_bind (wpAny_field hz rfl (x := .bool false) rfl ?_)
  show wpAny _ _ (field (.ref z) 3 >>= _) _ _ _
  refine wpAny_bind (wpAny_field hz rfl (x := .ref TI) rfl ?_)
  refine wpAny_bind (wpAny_seqItems hTI rfl ?_)
  dsimp only
  rw [if_neg (by
    cases its with
    | nil => exact absurd rfl hne
    | cons a r => simp)]
  refine wpAny_bind (tupHeld hz hoT fun h₁ hz₁ hs₁ => ?_)
  rw [if_neg Bool.false_ne_true]
  refine wpAny_bind ?_
  rw [← Array.forIn_toList]
  refine wpAny_forIn_list _ (fun rest b st => ∃ k h, b = (none, (xs.take k).toArray) ∧ rest = (its.map Value.ref).drop k ∧ k ≤ its.length ∧ st = { s with heap := h } ∧ IsZ h z TI TO (rawInt T) true ∧ Its ks h its ls i k ∧ h.objs.size = s.heap.objs.size ∧ Old (z :: TO :: its) s.heap h ∧ IsT h TO old) _ ?_ ?_ _ _ ?_
  · rintro v rest b st ⟨k, h, rfl, hr, hk, rfl, hz2, hI2, hsz2, ho2, hto⟩
    have hk2 : k < its.length := by
      rcases Nat.lt_or_ge k its.length with q | q
      · exact q
      · rw [List.drop_of_length_le (by simp; omega)] at hr; cases hr
    have hkz : k < (its.map Value.ref).length := by simp; omega
    rw [List.drop_eq_getElem_cons hkz] at hr
    injection hr with e1 e2
    rw [List.getElem_map] at e1
    subst e1 e2
    have q1 : its[k]? = some its[k] := List.getElem?_eq_getElem hk2
    have q2 : ls[k]? = some (ls[k]'(by omega)) := List.getElem?_eq_getElem (by omega)
    have q3 : tps[k]? = some (tps[k]'(by omega)) := List.getElem?_eq_getElem (by omega)
    have q4 : xs[k]? = some (xs[k]'(by omega)) := List.getElem?_eq_getElem (by omega)
    have hit : SIt (ks.getD k false) h its[k] (ls[k]'(by omega)) i := by
      have := hI2 k _ _ q1 q2
      rwa [if_neg (Nat.lt_irrefl _)] at this
    have hltup : SSq (ks.getD k false) h (ls[k]'(by omega)) (tps[k]'(by omega)) := (hT k _ _ q2 q3).at' fun o e => ho2 _ o (hlc _ (List.mem_of_getElem? q2)) e
    have mem : its[k] ∈ its := List.getElem_mem hk2
    refine wpAny_bind (wpAny_holding ?_)
    show wpAny _ _ (Builtin.SmallTypes.nextOf (.ref its[k]) >>= _) _ _ _
    refine wpAny_bind (next_item hit hltup (hx k _ _ q3 q4) fun h₂ hit₂ hs₂ => wpAny_pure ?_)
    refine wpAny_pure ?_
    refine ⟨k + 1, h₂, ?_, rfl, hk2, rfl, (hs₂.2 z (fun e => n1 (by rw [e]; simp [mem]))).trans hz2, hI2.step nd3.2 q1 q2 hit₂ hs₂, hs₂.1.trans hsz2, ho2.trans (Old.of (by simp [mem]) hs₂), (hs₂.2 TO (fun e => nd3.1 (e ▸ mem))).trans hto⟩
    rw [List.take_add_one, q4]
    simp
  · rintro b st ⟨k, h, rfl, hr, hk, rfl, hz2, hI2, hsz2, ho2, hto⟩
    have hk2 : k = its.length := by
      rcases Nat.lt_or_ge k its.length with q | q
      · rw [List.drop_eq_getElem_cons (by simp; omega)] at hr; cases hr
      · omega
    subst hk2
    rw [List.take_of_length_le (by omega)]
    dsimp only
    refine wpAny_bind (wpAny_newTuple ?_ (by show xs.length ≤ sizeLine; omega))
    refine wpAny_pure ⟨_, rfl, ?_⟩
    show Q (.ref h.objs.size) _
    have hp : IsT (h.push { cls := .type "tuple", data := .seq xs.toArray.toList.toArray }) h.objs.size xs := Heap.get?_push_size _ rfl
    rw [hsz2] at hp ⊢
    refine hQ _ (Heap.get?_push_of_some _ hz2) (fun j it l e1 e2 => ?_) hp (fun c o hc e => Heap.get?_push_of_some _ (ho2 c o hc e)) ?_
    · have := hI2 j it l e1 e2
      rw [if_pos (List.getElem?_eq_some_iff.mp e1).1] at this
      rw [if_neg (Nat.not_lt_zero _)]
      exact this.at fun o e => Heap.get?_push_of_some _ e
    · exact Heap.get?_push_of_some _ hto
  · refine ⟨0, h₁, by simp, by simp, Nat.zero_le _, rfl, hz₁, ?_, hs₁.1, Old.of (by simp) hs₁, (hs₁.2 TO (Ne.symm zTO)).trans hTO⟩
    exact hI.keep fun it hm o e => (hs₁.2 it (fun q => n1 (by rw [← q]; simp [hm]))).trans e
/-- the first one has ended -/
theorem zipN_end_free {Q : PySem.Fin → Shared → Prop} {f0 : Value} {b0 : Bool} (hfr : ∀ Q : Bool → Shared → Prop, Q true s → wpAny (model prog w) A (Builtin.SmallTypes.ownedTupleIsFree (.ref z)) Q E s) {old : List Value} {i1 l1 : Addr} {r : List Addr} {t : Array Value} (hh : A.handled = none) (hi : its = i1 :: r) (nd : (z :: TI :: TO :: its).Nodup)
    (hz : IsZ s.heap z TI TO f0 b0) (hTI : IsT s.heap TI (its.map Value.ref)) {kb : Bool} (h1 : SIt kb s.heap i1 l1 i) (hl : SSq kb s.heap l1 t) (hlc : l1 ∉ z :: TO :: its) (he : t[i]? = none)
    (hE : ∀ h' e, Old (z :: TO :: its) s.heap h' → (∃ o, h'.get? e = some o ∧ o.cls = .type "StopIteration") → E (.ref e) { s with heap := h' }) :
    wpAny (model prog w) A (Builtin.«zip.__next__» ⟨[.ref z], []⟩) Q E s := by
  subst hi
  have n1 : z ∉ TI :: TO :: i1 :: r := (List.nodup_cons.mp nd).1
  have zi : z ≠ i1 := fun e => n1 (by simp [e])
  show wpAny _ _ (field (.ref z) 2 >>= _) _ _ _
  refine wpAny_bind (wpAny_field hz rfl (x := .bool false) rfl ?_)
  show wpAny _ _ (field (.ref z) 3 >>= _) _ _ _
  refine wpAny_bind (wpAny_field hz rfl (x := .ref TI) rfl ?_)
  refine wpAny_bind (wpAny_seqItems hTI rfl ?_)
  dsimp only
  rw [if_neg (by simp)]
  refine wpAny_bind (hfr _ ?_)
  rw [if_pos rfl]
  refine wpAny_bind (wpAny_rule ?_)
  refine wpAny_bind (wpAny_field hz rfl (x := .ref TO) rfl ?_)
  refine wpAny_bind (wpAny_setField_rec hz (by simp) fun h₁ hz₁ hs₁ => ?_)
  replace hz₁ : IsZ h₁ z TI TO .ellipsis b0 := hz₁
  refine wpAny_bind ?_
  simp only [List.map_cons, List.zipIdx_cons, List.forIn_cons]
  refine wpAny_bind (wpAny_bind (wpAny_onRaise ?_))
  show wpAny _ _ (Builtin.SmallTypes.nextOf (.ref i1) >>= _) _ _ _
  refine wpAny_bind (next_end (s := { s with heap := h₁ }) hh (h1.at fun o e => (hs₁.2 i1 (Ne.symm zi)).trans e) (hl.at' fun o e => (hs₁.2 l1 (fun q => hlc (by simp [q]))).trans e) he fun h₂ e hs₂ he => ?_)
  obtain ⟨oe, hoe, hce⟩ := he
  have hz₂ : IsZ h₂ z TI TO .ellipsis b0 := hs₂ _ _ zi hz₁
  have hez : e ≠ z := fun x => by subst x; rw [hz₂] at hoe; cases hoe; simp at hce
  refine wpAny_setField_rec hz₂ (by simp) fun h₃ _ hs₃ => hE h₃ e (fun c o c1 x => ?_) ⟨oe, (hs₃.2 e hez).trans hoe, hce⟩
  exact (hs₃.2 c (fun q => c1 (by simp [q]))).trans (hs₂ c o (fun q => c1 (by simp [q])) ((hs₁.2 c (fun q => c1 (by simp [q]))).trans x))
theorem zipN_end_held {Q : PySem.Fin → Shared → Prop} {b0 : Bool} {T : Addr} {oT : Obj} {i1 l1 : Addr} {r : List Addr} {t : Array Value} (hh : A.handled = none) (hi : its = i1 :: r) (nd : (z :: TI :: TO :: its).Nodup)
    (hz : IsZ s.heap z TI TO (rawInt T) b0) (hoT : s.heap.get? T = some oT) (hTI : IsT s.heap TI (its.map Value.ref)) {kb : Bool} (h1 : SIt kb s.heap i1 l1 i) (hl : SSq kb s.heap l1 t) (hlc : l1 ∉ z :: TO :: its) (he : t[i]? = none)
    (hE : ∀ h' e, Old (z :: TO :: its) s.heap h' → (∃ o, h'.get? e = some o ∧ o.cls = .type "StopIteration") → E (.ref e) { s with heap := h' }) :
    wpAny (model prog w) A (Builtin.«zip.__next__» ⟨[.ref z], []⟩) Q E s := by
  subst hi
  have n1 : z ∉ TI :: TO :: i1 :: r := (List.nodup_cons.mp nd).1
  have zi : z ≠ i1 := fun e => n1 (by simp [e])
  show wpAny _ _ (field (.ref z) 2 >>= _) _ _ _
  refine wpAny_bind (wpAny_field hz rfl (x := .bool false) rfl ?_)
  show wpAny _ _ (field (.ref z) 3 >>= _) _ _ _
  refine wpAny_bind (wpAny_field hz rfl (x := .ref TI) rfl ?_)
  refine wpAny_bind (wpAny_seqItems hTI rfl ?_)
  dsimp only
  rw [if_neg (by simp)]
  refine wpAny_bind (tupHeld hz hoT fun h₁ hz₁ hs₁ => ?_)
  rw [if_neg Bool.false_ne_true]
  refine wpAny_bind ?_
  rw [← Array.forIn_toList]
  simp only [List.map_cons, List.forIn_cons]
  refine wpAny_bind (wpAny_bind (wpAny_holding ?_))
  show wpAny _ _ (Builtin.SmallTypes.nextOf (.ref i1) >>= _) _ _ _
  refine wpAny_bind (next_end (s := { s with heap := h₁ }) hh (h1.at fun o e => (hs₁.2 i1 (Ne.symm zi)).trans e) (hl.at' fun o e => (hs₁.2 l1 (fun q => hlc (by simp [q]))).trans e) he fun h₂ e hs₂ he => ?_)
  exact hE h₂ e (fun c o c1 x => hs₂ c o (fun q => c1 (by simp [q])) ((hs₁.2 c (fun q => c1 (by simp [q]))).trans x)) he
theorem free_none {b0 : Bool} {Q : Bool → Shared → Prop} (hz : IsZ s.heap z TI TO .none b0) (h : Q true s) : wpAny (model prog w) A (Builtin.SmallTypes.ownedTupleIsFree (.ref z)) Q E s := by
  unfold Builtin.SmallTypes.ownedTupleIsFree
  exact wpAny_bind (wpAny_field hz rfl (x := .none) rfl (wpAny_pure h))
theorem dead_ {a : Addr} {Q : Option Obj → Shared → Prop} (ho : s.heap.get? a = none) (h : Q none s) : wpAny (model prog w) A (loadIfAlive a) Q E s := by
  have h' : Q (s.heap.get? a) s := by rw [ho]; exact h
  exact fun _ _ _ => h'
theorem free_dead {T : Addr} {b0 : Bool} {Q : Bool → Shared → Prop} (hz : IsZ s.heap z TI TO (rawInt T) b0) (hT : s.heap.get? T = none) (h : Q true s) : wpAny (model prog w) A (Builtin.SmallTypes.ownedTupleIsFree (.ref z)) Q E s := by
  unfold Builtin.SmallTypes.ownedTupleIsFree
  refine wpAny_bind (wpAny_field hz rfl (x := rawInt T) rfl ?_)
  show wpAny _ _ (loadIfAlive ((T : Int).toNat) >>= _) _ _ _
  rw [Int.toNat_natCast]
  refine wpAny_bind (dead_ hT ?_)
  exact wpAny_pure h
/-- next(z) -/
theorem pyNext_zip {Q : Option Value → Shared → Prop} {f0 : Value} {b0 : Bool} (hz : IsZ s.heap z TI TO f0 b0)
    (h : wpAny (model prog w) A.in1 (Builtin.«zip.__next__» ⟨[.ref z], []⟩) (fun fin s' => ∃ v, fin = .done (.ret v) ∧ Q (some v) s') (fun e s' => ∃ a o, e = .ref a ∧ s'.heap.get? a = some o ∧ o.cls = .type "StopIteration" ∧ Q none s') s) : wpAny (model prog w) A (pyNext (.ref z)) Q E s := by
  have hTy : s.TypeIs (.ref z) "zip" := ⟨_, hz, rfl⟩
  unfold pyNext
  refine wpAny_bind (wpAny_attempt (wpAny_callSpecial?_slot (name := Str.ofString "__next__") hTy F.slot_zip_next
    (wpAny_call_entry F.slot_zip_next hTy F.entry_zip_next (wpAny_mono h (fun fin s' ⟨v, e, q⟩ => ⟨v, e, wpAny_pure q⟩) fun e s' ⟨a, o, e1, e2, e3, q⟩ => ?_) (F.args_zip_next_1 _))))
  subst e1
  refine wpAny_bind (wpAny_isInstance (T := "StopIteration") (b := true) ⟨o, e2, e3⟩ isSubtype_stop ?_)
  exact wpAny_pure q
end
end TW
/-! TWK: sorted of data of any length; of a dict whose keys are tuples; {t: v}. -/
namespace TW
open PySem PySem.Spec PyProof.Rows L2
section
variable {X : Cx} {pins : List (Addr × Obj)} {σ : L2.St} {H : Hp} {s : Shared}
open PySem.W (EachIs)
/-- what a value is, by its abstract one -/
def IsD (K : PySem.W.Frag) (H : Hp) {β : Type} (enc : β → PyData) (u : Value) (b : β) : Prop := ∃ v, RelV v u ∧ Dp K H v (enc b)
theorem each_of {K : PySem.W.Frag} {β : Type} {enc : β → PyData} : ∀ {xs : List V} {us : List Value} {bs : List β}, Vals xs us → DpAll K H xs (bs.map enc) → EachIs (IsD K H enc) us bs
  | _, _, [], .nil, .nil => .nil
  | _, _, b :: bs, .cons r t, .cons d a => .cons ⟨_, r, d⟩ (each_of t a)
theorem of_each {K : PySem.W.Frag} {β : Type} {enc : β → PyData} : ∀ {us : List Value} {bs : List β}, EachIs (IsD K H enc) us bs → ∃ xs, Vals xs us ∧ DpAll K H xs (bs.map enc)
  | _, _, .nil => ⟨[], .nil, .nil⟩
  | _, _, .cons ⟨v, r, d⟩ t => let ⟨xs, a, b⟩ := of_each t; ⟨v :: xs, .cons r a, .cons d b⟩
theorem reads_of {G : Hp} (I : Inv X pins σ H s) (sG : Same G H) {β : Type} {enc : β → PyData} {us : List Value} {bs : List β} (e : EachIs (IsD X.K G enc) us bs) : EachIs (fun u b => ∃ as, Reads s.heap u (enc b) as) us bs :=
  e.mono fun u b ⟨v, r, d⟩ => L2.Dp.reads I _ v u (dp_w (dp_mono sG d)) r
def rSortD (K : PySem.W.Frag) {β : Type} (enc : β → PyData) : List V → Hp → VK → Prop := fun vs H Q => ∃ (G : Hp) (a : Addr) (xs : List V) (bs : List β), Same G H ∧ vs = [V.ref a] ∧ SqL K H a xs ∧ DpAll K G xs (bs.map enc) ∧ PySem.W.AllAlike (bs.map enc) ∧ PySem.W.Sortable (bs.map enc) ∧ (∀ b ∈ bs, (enc b).depth ≤ 1) ∧
  ∀ ys p, DpAll K G ys ((bs.mergeSort (PySem.W.dataLe false enc)).map enc) → H p = none → Q (.ref p) (upd H p (.lst ys))
theorem cr_sortD (hu : X.A.units + 4 < cLine) {β : Type} (enc : β → PyData) : CallR X (.builtin "sorted") (rSortD X.K enc) := by
  intro pins s σ H vs us Q I r h
  obtain ⟨G, a, xs, bs, sG, rfl, hs, hd, hal, hk, hdp, q⟩ := h
  obtain ⟨its, rv, hl, hz⟩ := I.list hs
  obtain ⟨u, rfl, ru⟩ := vals1 r
  obtain rfl : u = Value.ref a := ru
  have e := each_of rv hd
  have hlen : bs.length = xs.length := by have := dpAll_len hd; rw [List.length_map] at this; omega
  refine PySem.W.sorted_data (enc := enc) (R := IsD X.K G enc) hl.isList e (reads_of I sG e) hal hk (by rw [hlen]; exact hz) (fun b hb => by have := hdp b hb; omega) fun out h1 h2 => ?_
  obtain ⟨ys, rvy, dy⟩ := of_each h2
  obtain ⟨n, hn⟩ := sortedAll_at s.heap its out.toArray
  have hly : ys.length ≤ sizeLine := by rw [rvy.length, h1, hlen]; exact hz
  refine ⟨.ref (s.heap.objs.size + 1), upd H (s.heap.objs.size + 1) (.lst ys), I.laid (t' := s.toks) (fun b o e => sortedAll_old e) (Nat.le_succ _) ⟨hly, out, n, rvy, hn⟩, rfl, q ys _ dy (I.hok.fresh (Nat.le_succ _))⟩
/-! sorted(d), d's keys are tuples of ints -/
def iK (k : List Int) : List L2.Key := k.map Sum.inl
theorem iK_V (k : List Int) : (iK k).map kV = k.map V.int := by unfold iK; rw [List.map_map]; rfl
theorem iK_inj {a b : List Int} (h : iK a = iK b) : a = b := by
  unfold iK at h
  exact (List.map_inj_right fun _ _ e => Sum.inl.inj e).mp h
def rSortKeys : List V → Hp → VK → Prop := fun vs H Q => ∃ (d : Addr) (ks : List (List Int)) (kvs : List (List L2.Key × V)), vs = [V.ref d] ∧ H d = some (.dT kvs) ∧ kvs.map (·.1) = ks.map iK ∧ (∀ k ∈ ks, k ≠ []) ∧
  ∀ (bs : List Addr) (ms : List (List Int)) p, ms.Perm ks → Paired (fun (b : Addr) (m : List Int) => H b = some (.tup (m.map V.int))) bs ms → H p = none → Q (.ref p) (upd H p (.lst (bs.map V.ref)))
def IsK (H : Hp) (u : Value) (m : List Int) : Prop := ∃ b, u = .ref b ∧ H b = some (.tup (m.map V.int))
theorem dTs_alike (ks : List (List Int)) : PySem.W.AllAlike (ks.map dTs) := PySem.W.AllAlike.of fun b b' => by rw [PySem.W.alike]; exact PySem.W.alike_ints b b'
theorem dTs_sortable {ks : List (List Int)} (h : ∀ k ∈ ks, k ≠ []) : PySem.W.Sortable (ks.map dTs) := .inl fun d hd => by
  obtain ⟨k, hk, rfl⟩ := List.mem_map.mp hd
  cases k with
  | nil => exact absurd rfl (h _ hk)
  | cons x r => exact ⟨.int x, r.map .int, rfl⟩
theorem dTs_depth (k : List Int) : (dTs k).depth ≤ 1 := by
  rw [PyData.depth, PySem.W.depth_ints]
  exact Nat.le_refl _
theorem readsAll_ints {h : Heap} : ∀ {k : List Int} {us : List Value}, Vals (k.map V.int) us → ReadsAll h us (k.map .int) []
  | [], _, .nil => .nil
  | x :: k, _, .cons ⟨t, e⟩ t' => by subst e; exact ReadsAll.cons (as := []) (bs := []) (.int x t) (readsAll_ints t')
theorem IsK.reads {P : Program} {w : World} {h : Heap} (ok : HOk P w H h) {u : Value} {m : List Int} (e : IsK H u m) : Reads h u (dTs m) [] := by
  obtain ⟨b, rfl, hb⟩ := e
  obtain ⟨_, its, r, o, ho, hc, n, hd⟩ := ok _ _ hb
  exact .tuple ho hc hd (by simpa using readsAll_ints r)
theorem isK_back : ∀ {us : List Value} {ms : List (List Int)}, EachIs (IsK H) us ms → ∃ bs : List Addr, us = bs.map Value.ref ∧ Paired (fun (b : Addr) (m : List Int) => H b = some (.tup (m.map V.int))) bs ms
  | _, _, .nil => ⟨[], rfl, .nil⟩
  | _, _, .cons ⟨b, e, hb⟩ t => let ⟨bs, e2, p⟩ := isK_back t; ⟨b :: bs, by rw [e, e2]; rfl, .cons hb p⟩
theorem pair_len {α β : Type} {F : α → β → Prop} {l : List α} {m : List β} (p : Paired F l m) : l.length = m.length := Paired.length p
theorem each_get {R : Value → List Int → Prop} : ∀ {us : List Value} {ms : List (List Int)}, us.length = ms.length → (∀ (j : Nat) (u : Value) (m : List Int), us[j]? = some u → ms[j]? = some m → R u m) → EachIs R us ms
  | [], [], _, _ => .nil
  | [], _ :: _, e, _ => by simp at e
  | _ :: _, [], e, _ => by simp at e
  | u :: us, m :: ms, e, h => .cons (h 0 u m rfl rfl) (each_get (by simpa using e) fun j u' m' h1 h2 => h (j + 1) u' m' (by simpa using h1) (by simpa using h2))
theorem cr_sortKeys (hc : X.calm = true) (hu : X.A.units + 6 < cLine) : CallR X (.builtin "sorted") rSortKeys := by
  intro pins s σ H xs us Q I r q
  obtain ⟨d, ks, kvs, rfl, hd, hks, hne, q⟩ := q
  obtain ⟨u, rfl, rx⟩ := vals1 r
  obtain rfl : u = Value.ref d := rx
  obtain ⟨z, hs, ys, pr, o, es, ep, ho, hx, hdt, he, hn⟩ := (show ObjOk X.prog X.w H s.heap d (.dT kvs) from I.hok d _ hd)
  have l1 : es.size = ys.length := size_of_entries he
  have l2 : kvs.length = ys.length := Paired.length pr
  have l3 : kvs.length = ks.length := by have e := congrArg List.length hks; rwa [List.length_map, List.length_map] at e
  refine Calls.call_function_entry PyProof.Rows.kind_sorted PyProof.Rows.plain_sorted PyProof.Rows.entry_sorted (PyProof.Rows.args_sorted1 _) ?_
  unfold Builtin.«sorted»
  refine wpAny_bind (m := checkCount "sorted" 1 1 _) (wpAny_pure ?_)
  refine wpAny_bind (PySem.W.kdu_collect (A := X.A.in1) (kdl_raw hs hx hdt) (I.ok.hd hc) ho (by omega) fun h' tk acc hk hacc => ?_)
  have hal : acc.toList.length = ks.length := by rw [Array.length_toList, hacc.1]; omega
  have I1 : Inv X pins σ H { s with heap := h', toks := tk } := I.kept hk
  have eK : EachIs (IsK H) acc.toList ks := each_get hal fun j u m h1 h2 => by
    obtain ⟨en, hen, hv⟩ := hacc.2 j u (by rw [← Array.getElem?_toList]; exact h1)
    have qe := entry_at he j
    rw [hen] at qe
    cases hb : ys[j]? with
    | none => rw [hb] at qe; exact nomatch (show some en = none from qe)
    | some b =>
      rw [hb] at qe
      have e2 : en = entryOfKey (tupleKind (mixKind X.prog X.w)) b := Option.some.inj qe
      obtain ⟨kv, hkv, r1, r2, _⟩ := DX.pget pr hb
      have e3 : (kvs.map (·.1))[j]? = some kv.1 := by rw [List.getElem?_map, hkv]; rfl
      rw [hks, List.getElem?_map, h2] at e3
      have e4 : iK m = kv.1 := Option.some.inj e3
      refine ⟨b.2.1, by rw [hv, e2]; all_goals rfl, ?_⟩
      rw [← iK_V, e4]; exact r2
  refine wpAny_bind (wpAny_newList ?_ (by rw [hal]; omega))
  have hoL : (h'.push (seqObj "list" acc.toList.toArray 0)).get? h'.objs.size = some (seqObj "list" acc.toList.toArray 0) := Heap.get?_push_size _ rfl
  show wpAny _ _ _ _ _ { s with heap := h'.push (seqObj "list" acc.toList.toArray 0), toks := tk }
  have er : EachIs (fun v b => ∃ as, Reads (h'.push (seqObj "list" acc.toList.toArray 0)) v (dTs b) as ∧ h'.objs.size ∉ as) acc.toList ks := eK.mono fun u m e => ⟨[], PyProof.Rows.Reads.keeps (fun b o q => Heap.get?_push_of_some _ q) (e.reads I1.hok), by simp⟩
  refine wpAny_bind (wpAny_holding (PySem.W.list_sort_data (s := { s with heap := h'.push (seqObj "list" acc.toList.toArray 0), toks := tk }) (enc := dTs) (R := IsK H) hoL eK er (dTs_alike ks) (dTs_sortable hne) (by omega) (fun b _ => by have := dTs_depth b; show X.A.in1.units + 1 + _ < _; have e := PyProof.Rows.units_in1 X.A; omega) fun out h1 h2 => ?_))
  obtain ⟨bs, rfl, pb⟩ := isK_back h2
  obtain ⟨e', he'⟩ := PyProof.Rows.sortedHeap_at (vs := acc.toList) (out := (bs.map Value.ref).toArray) hoL
  rw [List.length_map] at h1
  have hlen : (bs.map V.ref).length ≤ sizeLine := by rw [List.length_map, h1]; omega
  refine wpAny_pure ⟨_, rfl, .ref h'.objs.size, upd H h'.objs.size (.lst (bs.map V.ref)), I1.laid (t' := tk) (fun b u e => ?_) (Nat.le_refl _)
    (show ObjOk X.prog X.w _ _ _ (.lst (bs.map V.ref)) from ⟨hlen, bs.map Value.ref, e', vals_refs bs, he'⟩), rfl, q bs _ _ (List.mergeSort_perm _ _) pb (I1.hok.fresh (Nat.le_refl _))⟩
  have hb : b < h'.objs.size := Heap.lt_size e
  rw [PyProof.Rows.sortedHeap_old (Nat.ne_of_lt hb) (by rw [size_push']; exact Nat.lt_succ_of_lt hb)]
  exact Heap.get?_push_of_some _ e
/-! {t: v} -/
def tDispT (tk tv : TE) : TE := fun σ H Q => ∀ p, H p = none → tk σ (upd H p (.dT [])) fun x H1 => tv σ H1 fun y H2 => ∃ b k, x = .ref b ∧ H2 b = some (.tup (k.map kV)) ∧ H2 p = some (.dT []) ∧ Q (.ref p) (upd H2 p (.dT [(k, y)]))
theorem pe_dispT {k v : Expr} {tk tv : TE} {pos : Pos} (hu : X.A.units + 1 < cLine) (hk : PE X k tk) (hv : PE X v tv) : PE X (.Dict [some k] [v] pos) (tDispT tk tv) := by
  refine ⟨fun pins s σ H Q I q => ?_⟩
  have hn := I.hok.fresh (Nat.le_refl s.heap.objs.size)
  have I1 := I.laid (a := s.heap.objs.size) (o := .dT []) (h' := s.heap.push { cls := .type "dict", data := .dict #[] }) (t' := s.toks) (fun _ _ q => Heap.get?_push_of_some _ q) (Nat.le_refl _) (dt_empty s.heap I.big)
  rw [arm_eval_Dict, zip_pairTrees [some k] [v] X.env pos rfl rfl, dictDisplay_pairs (pairTrees [some k] [v] X.env pos) (by simp [pairTrees]) (by simp [pairTrees])]
  refine wpAny_bind (wpAny_standAt (wpAny_bind ?_))
  refine wpAny_subDictH (knd := tupleKind (mixKind X.prog X.w)) (show X.A.units < cLine by omega) (by simp [pairTrees]) ?_
  refine pairTrees_cons_walk (thn (hk.run pins _ σ _ _ I1 (q _ hn)) fun u s1 ⟨x, H1, I2, rx, q1⟩ => thn (hv.run pins s1 σ H1 _ I2 q1) fun u2 s2 ⟨y, H2, I3, ry, b, k0, ex, hb, hp, q2⟩ => pairTrees_nil_walk ?_)
  subst ex
  obtain rfl : u = Value.ref b := rx
  obtain ⟨z, hd, xs0, r0, dd⟩ := dt_of I3.hok hp
  have e0 : xs0 = [] := by cases r0; rfl
  subst e0
  refine ⟨[(k0, b, u2)], ⟨rfl, rfl, key_of I3.hok hb, trivial⟩, dd, fun h' tk dd' hs => wpAny_pure ⟨.ref s.heap.objs.size, _, ?_, rfl, q2⟩⟩
  have ht := I3.tok tk
  obtain ⟨o, es, ep, hq, h2, h3, h4, _, h5⟩ := dd'
  refine d_write I3 (by rw [hp]; exact True.intro) hs ⟨o, hq⟩ ⟨(show 1 ≤ sizeLine by decide), hd, [(k0, b, u2)], .cons ⟨rfl, ?_, ry⟩ .nil, o, es, ep, hq, h2, h3, h4, h5⟩
  rw [upd_ne (ne_of hb hp (fun z => nomatch z))]
  exact hb
end
section
variable {X : Cx} {ρ : DEnv} {a : Expr} {pos p : Pos} {β : Type} {enc : β → PyData}
theorem de_sortedR {P : List β → Prop} (hu : X.A.units + 4 < cLine) (hm : X.mg "sorted" = none) (ha : DeR X a ρ (fun d => ∃ bs, P bs ∧ d = .list (bs.map enc))) (hal : ∀ bs, P bs → PySem.W.AllAlike (bs.map enc)) (hk : ∀ bs, P bs → PySem.W.Sortable (bs.map enc)) (hd : ∀ bs, P bs → ∀ b ∈ bs, (enc b).depth ≤ 1)
    (hg : Gl X "sorted" := by rfl) (hs : starEach [a] X.env = (false, eval a X.env) :: starEach [] X.env := by rfl) : DeR X (.Call (.Name "sorted" p) [a] [] pos) ρ (fun d => ∃ bs, P bs ∧ d = .list ((bs.mergeSort (PySem.W.dataLe false enc)).map enc)) := by
  refine de_callB (cr_sortD hu enc) ?_ hg hm boot_sorted (das_oneR ha hs) (he := hs) (hpl := by rfl)
  rintro xs _ G H ⟨_, ⟨bs, pb, rfl⟩, rfl⟩ s dp k q
  obtain ⟨v, rfl, dv⟩ := dp1 dp
  obtain ⟨t, ys, rfl, h1, h2⟩ := dp_lst_inv dv
  refine ⟨G, t, ys, bs, s, rfl, s.seq h1, h2, hal bs pb, hk bs pb, hd bs pb, fun zs p dz hp => ?_⟩
  have n := Nxt.new (o := .lst zs) s hp
  exact q (.ref p) _ _ _ n ⟨bs, pb, rfl⟩ (.lst (.inl (.inl upd_same)) (dpAll_mono n.g dz))
end
end TW
/-! TWL: layings_between. -/
namespace TW
open PySem PySem.Spec PyProof.Rows L2
section
variable {P : Program} {w : World} {K : PySem.W.Frag} {mg : Str → Option Value} {base : Heap} {f : Addr} {fd : FuncData}
theorem dp3 {G : Hp} {xs : List V} {d1 d2 d3 : PyData} (h : DpAll K G xs [d1, d2, d3]) : ∃ u v w, xs = [u, v, w] ∧ Dp K G u d1 ∧ Dp K G v d2 ∧ Dp K G w d3 := by
  cases h with
  | cons a t =>
    obtain ⟨v, w, e, b, c⟩ := dp2 t
    subst e
    exact ⟨_, v, w, rfl, a, b, c⟩
theorem dp4 {G : Hp} {xs : List V} {d1 d2 d3 d4 : PyData} (h : DpAll K G xs [d1, d2, d3, d4]) : ∃ u v w z, xs = [u, v, w, z] ∧ Dp K G u d1 ∧ Dp K G v d2 ∧ Dp K G w d3 ∧ Dp K G z d4 := by
  cases h with
  | cons a t =>
    obtain ⟨v, w, z, e, b, c, d⟩ := dp3 t
    subst e
    exact ⟨_, v, w, z, rfl, a, b, c, d⟩
theorem dTs_at {G : Hp} {v : V} {k : List Int} (h : Dp K G v (dTs k)) : ∃ b, v = .ref b ∧ G b = some (.tup ((iK k).map kV)) := by
  obtain ⟨a, xs, rfl, h1, h2⟩ := dp_tup_s h
  rw [dpAll_ints_inv h2] at h1
  exact ⟨a, rfl, by rw [iK_V]; exact h1⟩
theorem dp_keys {H : Hp} : ∀ {bs : List Addr} {ms : List (List Int)}, Paired (fun (b : Addr) (m : List Int) => H b = some (.tup (m.map V.int))) bs ms → DpAll K H (bs.map V.ref) (ms.map dTs)
  | _, _, .nil => .nil
  | _, _, .cons h t => .cons (.tup h (dpAll_ints _)) (dp_keys t)
/-- in, as keys -/
theorem dpAll_split {H : Hp} : ∀ {ds es : List PyData} {vs : List V}, DpAll K H vs (ds ++ es) → ∃ a b, vs = a ++ b ∧ DpAll K H a ds ∧ DpAll K H b es
  | [], _, vs, h => ⟨[], vs, rfl, .nil, h⟩
  | d :: ds, _, _, .cons h t => by
    obtain ⟨a, b, e, h1, h2⟩ := dpAll_split (ds := ds) t
    exact ⟨_ :: a, b, by rw [e]; rfl, .cons h h1, h2⟩
theorem any_iK (F : List (List Int)) (z : List Int) : ((F.map iK).any fun k => decide (k = iK z)) = decide (z ∈ F) := by
  induction F with
  | nil => simp
  | cons a F ih =>
    rw [List.map_cons, List.any_cons, ih]
    by_cases q : z = a
    · subst q; simp
    · rw [decide_eq_false fun e => q (iK_inj e).symm]
      simp [q]
theorem val_in {kvs : List (List L2.Key × V)} {F : List (List Int)} (h : kvs.map (·.1) = F.map iK) (z : List Int) : (valV kvs (iK z)).isSome = decide (z ∈ F) := by
  rw [← valV_any]
  have : (kvs.any fun kv => decide (kv.1 = iK z)) = (kvs.map (·.1)).any fun k => decide (k = iK z) := by rw [List.any_map]; rfl
  rw [this, h, any_iK]
theorem ok_layings_between (B : Bl mg) (C_changed : Cal P w K mg base 1 "changed" p_changed (spD K fChg)) (C_open_deeds : Cal P w K mg base 3 "open_deeds" p_open_deeds (spD K fDeeds)) (F : Fun K "layings_between" "layings_between" s_layings_between f fd) : FnOk P w K mg base CX0 4 f fd p_layings_between (spD K fBetween) := by
  refine F.ok sc_layings_between (fun vs H Q E h => ?_) (fun cdv A outer s H vs Q E hr h => ?_)
  · obtain ⟨G, ds, R, _, dp, ⟨n, hs, x, y, rfl, _⟩, _⟩ := h
    exact dpAll_len dp
  · obtain ⟨G, ds, R, sG, dp, ⟨n, hs, x, y, rfl, hq, hR⟩, q⟩ := h
    have hnd := sc_layings_between.nd
    obtain ⟨wv, fv, rv, mv, rfl, dw, df, dr, dm⟩ := dp4 dp
    cases dm
    have hw := hq.1.1.1
    have hx := hq.1.1.2.1
    have hy := hq.1.1.2.2.1
    have hu := hr.units
    have hu1 : (A.deeper (envOfC "layings_between" (defScope s_layings_between) s.heap.objs.size f cdv)).units + 1 < cLine := by omega
    have hu6 : (A.deeper (envOfC "layings_between" (defScope s_layings_between) s.heap.objs.size f cdv)).units + 6 < cLine := by omega
    refine ⟨_, pss_cons (ps_par (i := 4) (j := 5) rfl hnd rfl rfl (by decide) rfl rfl (pa_cons (pe_dispT hu1 (pv 1) pe_bl) (pa_cons (pe_lst (pa_cons (pv 1) pa_nil)) pa_nil)) (by rfl))
      (pss_cons (ps_while PassesOwn.never (PW.pt (pw_and (pt_cmpR (op_neD hu) (pv 5) (pe_lst pa_nil) (nomark _)) (pw_and1 (pt_cmpR op_le (pe_callB call_len_dT rfl B.b_len boot_len (pa_cons (pv 4) pa_nil)) (pv 3) (nomark _)))))
        (pss_cons (ps_set (i := 6) hnd rfl (.inl rfl) (pe_bm0 PySem.F.plainAttrs_list PySem.F.slot_list_pop PySem.F.type_list_pop mt_pop (pv 5)))
          (pss_ex (A := fun z : List Int => Btw n hs x y z) fun z hz => pss_one (ps_for PassesOwn.never rfl (di_listE (ρ := [some (dWeb n hs), some (dTs x), some (dTs y), some (.int 500), none, none, some (dTs z), none, none, none]) (ds := (deeds n hs x y z).map encD) (de_callC C_open_deeds hr (by decide) (das_cons (de_var 0 rfl) (das_cons (de_var 1 rfl) (das_cons (de_var 2 rfl) (das_cons (de_var 6 rfl) das_nil)))) ⟨n, hs, x, y, z, rfl, ⟨hw, hx.len, hy.len, hz.lay.len⟩, rfl⟩)) (pg_tup rfl (pgs_cons (pg_name (i := 7) hnd rfl (.inl rfl)) (pgs_cons (pg_name (i := 8) hnd rfl (.inl rfl)) pgs_nil)))
            (pss_ex (A := fun p : Nat × Int => p ∈ deeds n hs x y z) fun p hp => pss_cons (ps_set (i := 9) hnd rfl (.inl rfl) (de_callC (R := fun d => d = dTs (chg z p.1 p.2)) (ρ := [none, none, none, none, none, none, some (dTs z), some (.int p.1), some (.int p.2), none]) (ds := [dTs z, .int p.1, .int p.2]) C_changed hr (by decide) (das_cons (de_var 6 rfl) (das_cons (de_var 7 rfl) (das_cons (de_var 8 rfl) das_nil))) ⟨z, p.1, p.2, rfl, ⟨by rw [hz.lay.len]; exact deed_lt hp, hz.sz hw⟩, rfl⟩))
              (pss_one (ps_if (pt_cmp (pc_dnotin hu1 (pv 9) (pv 4)))
                (pss_cons (ps_dput hu1 (pv 4) (pv 9) pe_bl rfl) (pss_one (ps_expr (pe_bm PySem.F.plainAttrs_list PySem.F.slot_list_append PySem.F.type_list_append mt_append (pv 5) (pa_cons (pv 9) pa_nil)))))
                pss_nil)))))))
      (pss_one (ps_ret (pe_callB (cr_sortKeys rfl hu6) rfl B.b_sorted boot_sorted (pa_cons (pv 4) pa_nil))))), ?_⟩
    refine q_seq ?_
    obtain ⟨fb, rfl, hfb⟩ := dTs_at df
    refine fun d hd => ⟨.ref fb, rfl, fb, iK x, rfl, ?_, upd_same, ?_⟩
    · rw [upd_ne (fun e => by rw [e, sG.free hd] at hfb; cases hfb)]; exact sG _ _ hfb
    have gd : G d = none := sG.free hd
    have n1 := (Nxt.new0 (o := .dT []) sG hd).mut (o := .dT [(iK x, V.bl true)]) hd gd
    refine ⟨.ref fb, rfl, (show 1 ≤ sizeLine by decide), fun r hr' => ?_⟩
    have hr0 : H r = none := n1.h.free hr'
    have gr : G r = none := n1.s.free hr'
    have n2 := n1.trans (Nxt.new0 (o := .lst [V.ref fb]) n1.s hr')
    have hdr : d ≠ r := fun e => by rw [← e, upd_same] at hr'; cases hr'
    refine ⟨.ref d, .ref r, rfl, ?_⟩
    dsimp only
    refine q_seq ?_
    have nil_in : x ∈ [x] := by simp
    refine t_while (fun m σ2 G2 H2 => ∃ (F M : List (List Int)) (kvs : List (List L2.Key × V)) (vs : List V) (y6 y7 y8 y9 : Option V), m = 2 * (500 - F.length) + M.length ∧ m ≤ 999 ∧ σ2 = [some wv, some (.ref fb), some rv, some (.int 500), some (.ref d), some (.ref r), y6, y7, y8, y9] ∧ Nxt G H G2 H2 ∧ G2 d = none ∧ G2 r = none ∧
      H2 d = some (.dT kvs) ∧ kvs.map (·.1) = F.map iK ∧ H2 r = some (.lst vs) ∧ DpAll K G2 vs (M.map dTs) ∧ F.Nodup ∧ (∀ z ∈ F, Btw n hs x y z) ∧ x ∈ F ∧ (∀ z ∈ M, z ∈ F) ∧ ∀ z ∈ F, z ∈ M ∨ ∀ p ∈ deeds n hs x y z, chg z p.1 p.2 ∈ F) (2 * (500 - 1) + 1) n2.s ?_ ?_ ?_
    · refine ⟨[x], [x], _, [V.ref fb], none, none, none, none, rfl, by decide, rfl, n2, gd, gr, by rw [upd_ne hdr, upd_same], rfl, upd_same, dpAll_one (dp_mono n2.g df), by simp, fun z hz => ?_, nil_in, fun z hz => hz, fun z hz => .inl hz⟩
      have : z = x := by simpa using hz
      subst this; exact hq.1.floor
    · rintro m σ2 G2 H2 ⟨F, M, kvs, vs, y6, y7, y8, y9, rfl, hm9, rfl, nx, gd2, gr2, hfd, hkv, hrm, dM, nd, hbt, hxF, hMF, hcl⟩ g2 s2 N hN
      have hF500 : F.length ≤ 500 := hq.2 F nd hbt
      have hlv : vs.length = M.length := by have := dpAll_len dM; rwa [List.length_map] at this
      refine ⟨.ref r, rfl, (show 0 ≤ sizeLine by decide), fun e he => ?_⟩
      have n3 := nx.trans (Nxt.new0 (o := .lst []) s2 he)
      have hre : r ≠ e := fun q => by rw [← q, hrm] at he; cases he
      have hde : d ≠ e := fun q => by rw [← q, hfd] at he; cases he
      have hfd3 : (upd H2 e (.lst [])) d = some (.dT kvs) := by rw [upd_ne hde]; exact hfd
      have hrm3 : (upd H2 e (.lst [])) r = some (.lst vs) := by rw [upd_ne hre]; exact hrm
      refine ⟨dLs M, .list [], .lst (.inl (.inl hrm3)) (dpAll_w (dpAll_mono n3.s dM)), .lst (.inl (.inl upd_same)) .nil, (sh_dLs M).shaped, sh_nil.shaped, _, rfl, ?_⟩
      rw [eqv_nil, List.isEmpty_map]
      have hkl : kvs.length = F.length := by have e := congrArg List.length hkv; rwa [List.length_map, List.length_map] at e
      by_cases hM : M = []
      · subst hM
        refine iteF ?_
        refine iteF ?_
        refine ⟨.ref d, rfl, d, F, kvs, rfl, hfd3, hkv, fun k hk e => ?_, fun bs ms p hpm hpd hp => ?_⟩
        · have := (hbt k hk).lay.len; rw [e] at this; have := hw.pos; simp at *; omega
        · have n4 := n3.trans (Nxt.new0 (o := .lst (bs.map V.ref)) n3.s hp)
          have n5 := n4.tups
          have gp : tupG G2 (upd (upd H2 e (.lst [])) p (.lst (bs.map V.ref))) p = none := by unfold tupG; rw [upd_same]; exact n3.s.free hp
          have n6 := Nxt.take n5.s upd_same gp (n3.h.free hp) n5
          refine q (.ref p) (dLs ms) _ _ n6 (hR ms ⟨hpm.nodup_iff.mpr nd, fun z => ⟨fun hz => hbt z (hpm.mem_iff.mp hz), fun hz => hpm.mem_iff.mpr (reach_all hq.1 hxF (fun z hz p hp => ((hcl z hz).resolve_left (by simp)) p hp) z hz)⟩⟩) (.lst (.inl (.inl upd_same)) (dp_keys (Paired.mapP hpd fun b m hb => ?_)))
          have hbp : b ≠ p := fun e => by rw [e, hp] at hb; cases hb
          rw [upd_ne hbp]
          exact tupG_at (by rw [upd_ne hbp]; exact hb)
      · obtain ⟨M', z, rfl⟩ : ∃ M' z, M = M' ++ [z] := ⟨M.dropLast, M.getLast hM, (List.dropLast_concat_getLast hM).symm⟩
        have hne : (!(M' ++ [z]).isEmpty) = true := by simp
        rw [hne]
        refine iteT ?_
        refine ⟨.ref d, rfl, d, kvs, rfl, hfd3, .int 500, rfl, kvs.length, 500, rfl, rfl, _, rfl, ?_⟩
        rw [decide_eq_true (by omega)]
        refine iteT ?_
        rw [List.map_append] at dM
        obtain ⟨vs', w2, rfl, dM', dw2⟩ := dpAll_split dM
        obtain ⟨zv, rfl, dz⟩ := dp1 dw2
        have hzF := hMF z (by simp)
        have hbz := hbt z hzF
        refine q_seq (q_set ?_)
        refine ⟨.ref r, rfl, .inl ⟨rfl, _, .inl (.inl hrm3)⟩, r, vs' ++ [zv], zv, rfl, rfl, hrm3, by simp, ?_⟩
        rw [List.dropLast_concat]
        dsimp only
        have n4 := n3.mut (o := .lst vs') hr0 gr2
        refine ⟨z, hbz, ?_⟩
        rw [List.length_append, List.length_singleton] at hm9 hN
        have hrr : (upd (upd H2 e (.lst [])) r (.lst vs')) d = some (.dT kvs) := by rw [upd_ne hdr]; exact hfd3
        refine t_for (K := K) n4.s (ρ := [some (dWeb n hs), some (dTs x), some (dTs y), some (.int 500), none, none, some (dTs z), none, none, none]) ?_ (fun _ i σ3 G3 H3 => ∃ (F' M2 : List (List Int)) (kvs' : List (List L2.Key × V)) (vs2 : List V) (y7 y8 y9 : Option V), σ3 = [some wv, some (.ref fb), some rv, some (.int 500), some (.ref d), some (.ref r), some zv, y7, y8, y9] ∧ Nxt G H G3 H3 ∧ G3 d = none ∧ G3 r = none ∧
          H3 d = some (.dT kvs') ∧ kvs'.map (·.1) = F'.map iK ∧ H3 r = some (.lst vs2) ∧ DpAll K G3 vs2 (M2.map dTs) ∧ F'.Nodup ∧ (∀ z ∈ F', Btw n hs x y z) ∧ x ∈ F' ∧ (∀ z ∈ M2, z ∈ F') ∧ (∀ u ∈ F', u ∈ M2 ∨ u = z ∨ ∀ p ∈ deeds n hs x y u, chg u p.1 p.2 ∈ F') ∧ (∀ j, j < i → ∀ p, (deeds n hs x y z)[j]? = some p → chg z p.1 p.2 ∈ F') ∧ Dp K G3 zv (dTs z) ∧ 2 * (500 - F'.length) + M2.length ≤ 2 * (500 - F.length) + M'.length) ?_ ?_ ?_ ?_
        · exact evS (dp_mono g2 dw) (evS (dp_mono g2 df) (evS (dp_mono g2 dr) (evS (.int 500) (evN (evN (evS dz (evN (evN (evN ev0)))))))))
        · intro ds G3 H3 _ n5
          have a1 := n5.stay hrr gd2 trivial
          have a2 := n5.stay (o := .lst vs') upd_same gr2 trivial
          refine ⟨F, M', kvs, vs', y7, y8, y9, rfl, n4.trans n5, a1.2, a2.2, a1.1, hkv, a2.1, dpAll_mono n5.g dM', nd, hbt, hxF, fun u hu => hMF u (by simp [hu]), fun u hu => ?_, fun j hj => by omega, dp_mono n5.g dz, Nat.le_refl _⟩
          rcases hcl u hu with h | h
          · rcases List.mem_append.mp h with h | h
            · exact .inl h
            · exact .inr (.inl (by simpa using h))
          · exact .inr (.inr h)
        · rintro ds i σ3 G3 H3 G4 H4 _ ⟨F', M2, kvs', vs2, y7, y8, y9, rfl, nx3, gd3, gr3, hfd3, hkv3, hrm3, dM3, nd3, hbt3, hxF3, hMF3, hcl3, hdn3, dz3, hms3⟩ n5
          have a1 := n5.stay hfd3 gd3 trivial
          have a2 := n5.stay hrm3 gr3 trivial
          exact ⟨F', M2, kvs', vs2, y7, y8, y9, rfl, nx3.trans n5, a1.2, a2.2, a1.1, hkv3, a2.1, dpAll_mono n5.g dM3, nd3, hbt3, hxF3, hMF3, hcl3, hdn3, dp_mono n5.g dz3, hms3⟩
        · rintro ds i dd xv σ3 G3 H3 rfl hdd ⟨F', M2, kvs', vs2, y7, y8, y9, rfl, nx3, gd3, gr3, hfd3, hkv3, hrm3, dM3, nd3, hbt3, hxF3, hMF3, hcl3, hdn3, dz3, hms3⟩ g3 s3 dxv N2 hN2
          rw [List.getElem?_map] at hdd
          cases hpp : (deeds n hs x y z)[i]? with
          | none => rw [hpp] at hdd; cases hdd
          | some p =>
            rw [hpp] at hdd
            have e5 : encD p = dd := Option.some.inj hdd
            subst e5
            have hpm := List.mem_of_getElem? hpp
            obtain ⟨T, xs, rfl, hT, dxs⟩ := dp_tup_inv dxv
            obtain ⟨x1, x2, rfl, d1, d2⟩ := dp2 dxs
            cases d1; cases d2
            refine ⟨T, _, rfl, same_t s3 hT, rfl, _, _, rfl, _, [], rfl, rfl, ?_⟩
            refine ⟨p, hpm, ?_⟩
            refine q_seq (q_set ?_)
            refine ⟨G3, s3, evN (evN (evN (evN (evN (evN (evS dz3 (evS (.int p.1) (evS (.int p.2) (evN ev0))))))))), fun tv td G4 H4 n5 e6 dt => ?_⟩
            subst e6
            obtain ⟨tb, rfl, htb⟩ := dTs_at dt
            have a1 := n5.stay hfd3 gd3 trivial
            have a2 := n5.stay hrm3 gr3 trivial
            have hbn := deed_btw hq.1 hbz hpm
            have hkl3 : kvs'.length = F'.length := by have e := congrArg List.length hkv3; rwa [List.length_map, List.length_map] at e
            have hF3 : F'.length ≤ 500 := hq.2 F' nd3 hbt3
            have nx5 := nx3.trans n5
            dsimp only
            refine ⟨.ref tb, rfl, .ref d, rfl, d, _, rfl, DGet.t a1.1 (n5.s _ _ htb), _, rfl, ?_⟩
            rw [val_in hkv3]
            by_cases hin : chg z p.1 p.2 ∈ F'
            · rw [decide_eq_true hin]
              refine iteF ?_
              refine hN2 _ G4 H4 n5.g n5.s ⟨F', M2, kvs', vs2, _, _, _, rfl, nx5, a1.2, a2.2, a1.1, hkv3, a2.1, dpAll_mono n5.g dM3, nd3, hbt3, hxF3, hMF3, hcl3, fun j hj p' hp' => ?_, dp_mono n5.g dz3, hms3⟩
              by_cases ej : j < i
              · exact hdn3 j ej p' hp'
              · have e2 : j = i := by omega
                subst e2
                rw [hpp] at hp'; cases hp'
                exact hin
            · rw [decide_eq_false hin]
              refine iteT ?_
              have hno : valV kvs' (iK (chg z p.1 p.2)) = none := by
                have := val_in hkv3 (chg z p.1 p.2)
                rw [decide_eq_false hin] at this
                cases e : valV kvs' (iK (chg z p.1 p.2)) with
                | none => rfl
                | some _ => rw [e] at this; cases this
              have nd4 : (F' ++ [chg z p.1 p.2]).Nodup := by
                rw [List.nodup_append]
                exact ⟨nd3, by simp, fun a ha b hb => by
                  have : b = chg z p.1 p.2 := by simpa using hb
                  subst this
                  exact fun e => hin (e ▸ ha)⟩
              have hbt4 : ∀ u ∈ F' ++ [chg z p.1 p.2], Btw n hs x y u := fun u hu => by
                rcases List.mem_append.mp hu with h | h
                · exact hbt3 u h
                · have : u = chg z p.1 p.2 := by simpa using h
                  subst this; exact hbn
              have hF4 := hq.2 _ nd4 hbt4
              rw [List.length_append, List.length_singleton] at hF4
              have hl2 : vs2.length = M2.length := by have := dpAll_len dM3; rwa [List.length_map] at this
              refine q_seq ?_
              refine ⟨.ref d, rfl, .ref tb, rfl, d, _, rfl, DPut.t a1.1 (n5.s _ _ htb) (by rw [hkl3, sizeLine_eq]; omega), ?_⟩
              rw [putK_new _ hno]
              have nx6 := nx5.mut (o := .dT (kvs' ++ [(iK (chg z p.1 p.2), V.bl true)])) hd a1.2
              have hr6 : (upd H4 d (.dT (kvs' ++ [(iK (chg z p.1 p.2), V.bl true)]))) r = some (.lst vs2) := by rw [upd_ne (Ne.symm hdr)]; exact a2.1
              refine ⟨.ref r, rfl, .inl ⟨rfl, _, .inl (.inl hr6)⟩, .ref tb, rfl, r, vs2, .ref tb, rfl, rfl, hr6, by rw [hl2, sizeLine_eq]; omega, ?_⟩
              have nx7 := nx6.mut (o := .lst (vs2 ++ [V.ref tb])) hr0 a2.2
              refine hN2 _ G4 _ n5.g nx7.s ⟨F' ++ [chg z p.1 p.2], M2 ++ [chg z p.1 p.2], _, vs2 ++ [V.ref tb], _, _, _, rfl, nx7, a1.2, a2.2, by rw [upd_ne hdr, upd_same], ?_, upd_same, ?_, nd4, hbt4, List.mem_append_left _ hxF3, fun u hu => ?_, fun u hu => ?_, fun j hj p' hp' => ?_, dp_mono n5.g dz3, ?_⟩
              · rw [List.map_append, List.map_append, hkv3]; rfl
              · rw [List.map_append]; exact dpAll_app (dpAll_mono n5.g dM3) (dpAll_one dt)
              · rcases List.mem_append.mp hu with h | h
                · exact List.mem_append_left _ (hMF3 u h)
                · exact List.mem_append_right _ h
              · rcases List.mem_append.mp hu with h | h
                · rcases hcl3 u h with h | h | h
                  · exact .inl (List.mem_append_left _ h)
                  · exact .inr (.inl h)
                  · exact .inr (.inr fun p' hp' => List.mem_append_left _ (h p' hp'))
                · exact .inl (List.mem_append_right _ h)
              · by_cases ej : j < i
                · exact List.mem_append_left _ (hdn3 j ej p' hp')
                · have e2 : j = i := by omega
                  subst e2
                  rw [hpp] at hp'; cases hp'
                  exact List.mem_append_right _ (by simp)
              · simp only [List.length_append, List.length_singleton]; omega
        · rintro ds σ3 G3 H3 rfl ⟨F', M2, kvs', vs2, y7, y8, y9, rfl, nx3, gd3, gr3, hfd3, hkv3, hrm3, dM3, nd3, hbt3, hxF3, hMF3, hcl3, hdn3, dz3, hms3⟩ g3 s3
          refine hN (2 * (500 - F'.length) + M2.length) _ G3 H3 (by omega) g3 s3 ⟨F', M2, kvs', vs2, _, _, _, _, rfl, by omega, rfl, nx3, gd3, gr3, hfd3, hkv3, hrm3, dM3, nd3, hbt3, hxF3, hMF3, fun u hu => ?_⟩
          rcases hcl3 u hu with h | h | h
          · exact .inl h
          · subst h
            refine .inr fun p hp => ?_
            obtain ⟨j, hj, hjp⟩ := List.getElem_of_mem hp
            exact hdn3 j (by rw [List.length_map]; exact hj) p (by rw [List.getElem?_eq_getElem hj, hjp])
          · exact .inr h
    · rintro σ2 H2 Q1 Q2 hq ⟨x5, hx5, hz0, hall⟩
      refine ⟨x5, hx5, hz0, fun p hp => ?_⟩
      obtain ⟨d1, e1, h1, h2, h3, h4, b, hb, hrest⟩ := hall p hp
      refine ⟨d1, e1, h1, h2, h3, h4, b, hb, ?_⟩
      cases b with
      | false =>
        refine iteF (hq _ _ ?_)
        exact hrest
      | true =>
        refine iteT ?_
        obtain ⟨x4, hx4, a, kvs, ea, ha, x3, hx3, i', j', e3, e4, b, e5, h⟩ := hrest
        exact ⟨x4, hx4, a, kvs, ea, ha, x3, hx3, i', j', e3, e4, b, e5, hq _ _ h⟩
end
end TW
/-! TWM4: greater and lesser of two; the best ones; what the law asks. -/
namespace TW
def mxL (x y : List Int) : List Int := (x.zip y).map fun p => max p.1 p.2
def mnL (x y : List Int) : List Int := (x.zip y).map fun p => min p.1 p.2
section
variable {n : Nat} {hs : List (Nat × Nat)} {x y z a b : List Int} {f : Nat} {w : List Int} {m : Int}
theorem zipD {g : Int → Int → Int} (hl : a.length = b.length) (h : f < a.length) : ((a.zip b).map fun p => g p.1 p.2).getD f 0 = g (a.getD f 0) (b.getD f 0) := by
  have e1 := getD_at h
  have e2 := getD_at (x := b) (f := f) (by omega)
  have e3 : (a.zip b)[f]? = some (a.getD f 0, b.getD f 0) := List.getElem?_zip_eq_some.mpr ⟨e1, e2⟩
  rw [List.getD_eq_getElem?_getD, List.getElem?_map, e3]
  rfl
theorem zipL {g : Int → Int → Int} (hl : a.length = b.length) : ((a.zip b).map fun p => g p.1 p.2).length = a.length := by
  rw [List.length_map, List.length_zip]; omega
/-- two layings of one parity, joined field by field -/
theorem lay_mx (W : WebOk n hs) (A : Lay n hs a) (B : Lay n hs b) (h0 : (b.getD 0 0 - a.getD 0 0) % 2 = 0) : Lay n hs (mxL a b) := by
  have hl : a.length = b.length := by rw [A.len, B.len]
  have g : ∀ f, f < n → (mxL a b).getD f 0 = max (a.getD f 0) (b.getD f 0) := fun f hf => zipD (g := max) hl (by rw [A.len]; exact hf)
  have pa := par_all W A B h0
  refine lay_of (by unfold mxL; rw [zipL (g := max) hl, A.len]) (fun f hf => ?_) (fun h hm => ?_)
  · have := lay_bnd A hf; have := lay_bnd B hf
    rw [g f hf]; omega
  · have r := W.rng h hm
    have p1 := pa h.1 (by omega)
    have p2 := pa h.2 r.2
    have s1 := A.step h hm
    have s2 := B.step h hm
    rw [g h.1 (by omega), g h.2 r.2]
    omega
theorem lay_mn (W : WebOk n hs) (A : Lay n hs a) (B : Lay n hs b) (h0 : (b.getD 0 0 - a.getD 0 0) % 2 = 0) : Lay n hs (mnL a b) := by
  have hl : a.length = b.length := by rw [A.len, B.len]
  have g : ∀ f, f < n → (mnL a b).getD f 0 = min (a.getD f 0) (b.getD f 0) := fun f hf => zipD (g := min) hl (by rw [A.len]; exact hf)
  have pa := par_all W A B h0
  refine lay_of (by unfold mnL; rw [zipL (g := min) hl, A.len]) (fun f hf => ?_) (fun h hm => ?_)
  · have := lay_bnd A hf; have := lay_bnd B hf
    rw [g f hf]; omega
  · have r := W.rng h hm
    have p1 := pa h.1 (by omega)
    have p2 := pa h.2 r.2
    have s1 := A.step h hm
    have s2 := B.step h hm
    rw [g h.1 (by omega), g h.2 r.2]
    omega
theorem mx_at (A : Lay n hs a) (B : Lay n hs b) (hf : f < n) : (mxL a b).getD f 0 = max (a.getD f 0) (b.getD f 0) := zipD (g := max) (by rw [A.len, B.len]) (by rw [A.len]; exact hf)
theorem mn_at (A : Lay n hs a) (B : Lay n hs b) (hf : f < n) : (mnL a b).getD f 0 = min (a.getD f 0) (b.getD f 0) := zipD (g := min) (by rw [A.len, B.len]) (by rw [A.len]; exact hf)
theorem Btw.two (A : Btw n hs x y a) (B : Btw n hs x y b) : (b.getD 0 0 - a.getD 0 0) % 2 = 0 := by
  have := A.par; have := B.par; omega
theorem btw_mx (W : WebOk n hs) (A : Btw n hs x y a) (B : Btw n hs x y b) : Btw n hs x y (mxL a b) := by
  refine ⟨lay_mx W A.lay B.lay (A.two B), ?_, fun f hf => ?_⟩
  · rw [mx_at A.lay B.lay W.pos]
    have := A.par; have := B.par; omega
  · have := A.btw f hf; have := B.btw f hf
    rw [mx_at A.lay B.lay hf]; omega
theorem btw_mn (W : WebOk n hs) (A : Btw n hs x y a) (B : Btw n hs x y b) : Btw n hs x y (mnL a b) := by
  refine ⟨lay_mn W A.lay B.lay (A.two B), ?_, fun f hf => ?_⟩
  · rw [mn_at A.lay B.lay W.pos]
    have := A.par; have := B.par; omega
  · have := A.btw f hf; have := B.btw f hf
    rw [mn_at A.lay B.lay hf]; omega
theorem wo_cons {i j : Int} {z w : List Int} : wo (i :: z) (j :: w) = i * j + wo z w := by unfold wo; simp
theorem wo_nil {w : List Int} : wo [] w = 0 := by unfold wo; simp
theorem wo_nil2 {z : List Int} : wo z [] = 0 := by unfold wo; simp
theorem wo_join : ∀ (a b w : List Int), a.length = b.length → wo (mxL a b) w + wo (mnL a b) w = wo a w + wo b w
  | [], [], w, _ => by simp [mxL, mnL, wo_nil]
  | a :: as, b :: bs, [], _ => by simp [wo_nil2]
  | a :: as, b :: bs, w :: ws, h => by
    have ih := wo_join as bs ws (by simpa using h)
    have e1 : mxL (a :: as) (b :: bs) = max a b :: mxL as bs := rfl
    have e2 : mnL (a :: as) (b :: bs) = min a b :: mnL as bs := rfl
    rw [e1, e2, wo_cons, wo_cons, wo_cons, wo_cons]
    have : max a b * w + min a b * w = a * w + b * w := by
      rcases Int.le_total a b with h | h
      · rw [Int.max_eq_right h, Int.min_eq_left h]; omega
      · rw [Int.max_eq_left h, Int.min_eq_right h]
    omega
/-- the best ones are closed -/
structure Tops (n : Nat) (hs : List (Nat × Nat)) (x y w : List Int) (m : Int) (z : List Int) : Prop where
  b : Btw n hs x y z
  w : wo z w = m
theorem tops_join (W : WebOk n hs) (M : IsBest n hs x y w m) (A : Tops n hs x y w m a) (B : Tops n hs x y w m b) : Tops n hs x y w m (mxL a b) ∧ Tops n hs x y w m (mnL a b) := by
  have j := wo_join a b w (by rw [A.b.lay.len, B.b.lay.len])
  have u := btw_mx W A.b B.b
  have v := btw_mn W A.b B.b
  have := M.top _ u
  have := M.top _ v
  have := A.w
  have := B.w
  exact ⟨⟨u, by omega⟩, ⟨v, by omega⟩⟩
theorem fold_mx (W : WebOk n hs) (M : IsBest n hs x y w m) : ∀ (T : List (List Int)), T ≠ [] → (∀ z ∈ T, Tops n hs x y w m z) → ∃ u, Tops n hs x y w m u ∧ ∀ f, f < n → (∃ b, b ∈ T ∧ b.getD f 0 = u.getD f 0) ∧ ∀ b, b ∈ T → b.getD f 0 ≤ u.getD f 0
  | [z], _, h => ⟨z, h z (by simp), fun f hf => ⟨⟨z, by simp, rfl⟩, fun b hb => by simp at hb; subst hb; exact Int.le_refl _⟩⟩
  | z :: v :: T, _, h => by
    obtain ⟨u, U, hu⟩ := fold_mx W M (v :: T) (by simp) fun z hz => h z (List.mem_cons_of_mem _ hz)
    have Z := h z List.mem_cons_self
    refine ⟨mxL z u, (tops_join W M Z U).1, fun f hf => ?_⟩
    rw [mx_at Z.b.lay U.b.lay hf]
    obtain ⟨⟨b, hb, eb⟩, hu2⟩ := hu f hf
    refine ⟨?_, fun c hc => ?_⟩
    · rcases Int.le_total (z.getD f 0) (u.getD f 0) with l | l
      · exact ⟨b, List.mem_cons_of_mem _ hb, by rw [Int.max_eq_right l]; exact eb⟩
      · exact ⟨z, List.mem_cons_self, by rw [Int.max_eq_left l]⟩
    · rcases List.mem_cons.mp hc with rfl | hc
      · omega
      · have := hu2 c hc; omega
theorem fold_mn (W : WebOk n hs) (M : IsBest n hs x y w m) : ∀ (T : List (List Int)), T ≠ [] → (∀ z ∈ T, Tops n hs x y w m z) → ∃ u, Tops n hs x y w m u ∧ ∀ f, f < n → (∃ b, b ∈ T ∧ b.getD f 0 = u.getD f 0) ∧ ∀ b, b ∈ T → u.getD f 0 ≤ b.getD f 0
  | [z], _, h => ⟨z, h z (by simp), fun f hf => ⟨⟨z, by simp, rfl⟩, fun b hb => by simp at hb; subst hb; exact Int.le_refl _⟩⟩
  | z :: v :: T, _, h => by
    obtain ⟨u, U, hu⟩ := fold_mn W M (v :: T) (by simp) fun z hz => h z (List.mem_cons_of_mem _ hz)
    have Z := h z List.mem_cons_self
    refine ⟨mnL z u, (tops_join W M Z U).2, fun f hf => ?_⟩
    rw [mn_at Z.b.lay U.b.lay hf]
    obtain ⟨⟨b, hb, eb⟩, hu2⟩ := hu f hf
    refine ⟨?_, fun c hc => ?_⟩
    · rcases Int.le_total (z.getD f 0) (u.getD f 0) with l | l
      · exact ⟨z, List.mem_cons_self, by rw [Int.min_eq_left l]⟩
      · exact ⟨b, List.mem_cons_of_mem _ hb, by rw [Int.min_eq_right l]; exact eb⟩
    · rcases List.mem_cons.mp hc with rfl | hc
      · omega
      · have := hu2 c hc; omega
theorem IsTold.tops {T : List (List Int)} (t : IsTold n hs x y w m T) : ∀ z, z ∈ T ↔ Tops n hs x y w m z := fun z => ⟨fun h => let ⟨a, b⟩ := (t.all z).mp h; ⟨a, b⟩, fun h => (t.all z).mpr ⟨h.b, h.w⟩⟩
theorem IsTold.ne {T : List (List Int)} (t : IsTold n hs x y w m T) (M : IsBest n hs x y w m) : T ≠ [] := by
  obtain ⟨z, hz, e⟩ := M.at_
  intro h
  have := (t.all z).mpr ⟨hz, e⟩
  rw [h] at this; cases this
/-- the highest of the best is one of them -/
theorem most_top {T : List (List Int)} {u : List Int} (W : WebOk n hs) (M : IsBest n hs x y w m) (t : IsTold n hs x y w m T) (h : Most n T u) : Tops n hs x y w m u := by
  obtain ⟨v, V, hv⟩ := fold_mx W M T (t.ne M) fun z hz => (t.tops z).mp hz
  have : u = v := ext_getD (by rw [h.1, V.b.lay.len]) fun f hf => by
    rw [h.1] at hf
    obtain ⟨⟨b, hb, eb⟩, h2⟩ := h.2 f hf
    obtain ⟨⟨c, hc, ec⟩, h4⟩ := hv f hf
    have := h2 c hc
    have := h4 b hb
    omega
  rw [this]; exact V
theorem least_top {T : List (List Int)} {u : List Int} (W : WebOk n hs) (M : IsBest n hs x y w m) (t : IsTold n hs x y w m T) (h : Least n T u) : Tops n hs x y w m u := by
  obtain ⟨v, V, hv⟩ := fold_mn W M T (t.ne M) fun z hz => (t.tops z).mp hz
  have : u = v := ext_getD (by rw [h.1, V.b.lay.len]) fun f hf => by
    rw [h.1] at hf
    obtain ⟨⟨b, hb, eb⟩, h2⟩ := h.2 f hf
    obtain ⟨⟨c, hc, ec⟩, h4⟩ := hv f hf
    have := h2 c hc
    have := h4 b hb
    omega
  rw [this]; exact V
theorem ex_best (R : Bnd n hs x y) (q : Few n hs x y) {L : List (List Int)} (a : IsAll n hs x y L) : ∃ m, IsBest n hs x y w m := by
  have : ∀ L : List (List Int), L ≠ [] → ∃ m, (∃ z, z ∈ L ∧ wo z w = m) ∧ ∀ z, z ∈ L → wo z w ≤ m := by
    intro L
    induction L with
    | nil => intro h; exact absurd rfl h
    | cons z L ih =>
      intro _
      by_cases e : L = []
      · subst e; exact ⟨wo z w, ⟨z, by simp, rfl⟩, fun v hv => by simp at hv; subst hv; exact Int.le_refl _⟩
      · obtain ⟨m, ⟨v, hv, ev⟩, h2⟩ := ih e
        by_cases l : wo z w ≤ m
        · exact ⟨m, ⟨v, List.mem_cons_of_mem _ hv, ev⟩, fun u hu => by
            rcases List.mem_cons.mp hu with rfl | hu
            · exact l
            · exact h2 u hu⟩
        · exact ⟨wo z w, ⟨z, by simp, rfl⟩, fun u hu => by
            rcases List.mem_cons.mp hu with rfl | hu
            · exact Int.le_refl _
            · have := h2 u hu; omega⟩
  obtain ⟨m, ⟨z, hz, e⟩, h⟩ := this L (List.ne_nil_of_mem ((a.all x).mpr R.floor))
  exact ⟨m, ⟨z, (a.all z).mp hz, e⟩, fun z hz => h z ((a.all z).mpr hz)⟩
/-- sums by worths of one, of none, of minus one -/
theorem wo_ones : ∀ (z : List Int) (k : Nat), z.length = k → wo z (List.replicate k 1) = z.sum
  | [], 0, _ => rfl
  | i :: z, k + 1, h => by
    have ih := wo_ones z k (by simpa using h)
    rw [List.replicate_succ, wo_cons, ih, List.sum_cons]; omega
theorem wo_neg : ∀ (z : List Int) (w : List Int), wo z (w.map fun i => 0 - i) = 0 - wo z w
  | [], w => by simp [wo_nil]
  | i :: z, [] => by simp [wo_nil2]
  | i :: z, j :: w => by
    have ih := wo_neg z w
    rw [List.map_cons, wo_cons, wo_cons, ih, Int.mul_sub]; omega
theorem wo_zeros : ∀ (z : List Int) (k : Nat), wo z (List.replicate k 0) = 0
  | [], _ => wo_nil
  | i :: z, 0 => rfl
  | i :: z, k + 1 => by
    rw [List.replicate_succ, wo_cons, wo_zeros z k]; omega
theorem wo_add : ∀ (z w : List Int) (c : Int), z.length = w.length → wo (z.map fun i => i + c) w = wo z w + c * w.sum
  | [], [], c, _ => by simp [wo_nil]
  | i :: z, j :: w, c, h => by
    have ih := wo_add z w c (by simpa using h)
    rw [List.map_cons, wo_cons, wo_cons, ih, List.sum_cons, Int.add_mul, Int.mul_add]; omega
theorem sum_le2 : ∀ (a b : List Int), a.length = b.length → (∀ f, f < a.length → a.getD f 0 ≤ b.getD f 0) → a.sum ≤ b.sum ∧ (a.sum = b.sum → a = b)
  | [], [], _, _ => ⟨by simp, fun _ => rfl⟩
  | i :: a, j :: b, hl, h => by
    have ih := sum_le2 a b (by simpa using hl) fun f hf => by
      have := h (f + 1) (by simpa using hf)
      simpa using this
    have h0 : i ≤ j := by simpa using h 0 (by simp)
    rw [List.sum_cons, List.sum_cons]
    refine ⟨by omega, fun e => ?_⟩
    have e1 : i = j := by omega
    rw [e1, ih.2 (by omega)]
theorem best_ones (R : Bnd n hs x y) : IsBest n hs x y (List.replicate n 1) y.sum ∧ ∀ z, Tops n hs x y (List.replicate n 1) y.sum z → z = y := by
  have L := R.roof
  have ey := wo_ones y n L.lay.len
  refine ⟨⟨⟨y, L, ey⟩, fun z hz => ?_⟩, fun z Z => ?_⟩
  · rw [wo_ones z n hz.lay.len]
    exact (sum_le2 z y (by rw [hz.lay.len, L.lay.len]) fun f hf => (hz.btw f (by rw [← hz.lay.len]; exact hf)).2).1
  · have := Z.w
    rw [wo_ones z n Z.b.lay.len] at this
    exact (sum_le2 z y (by rw [Z.b.lay.len, L.lay.len]) fun f hf => (Z.b.btw f (by rw [← Z.b.lay.len]; exact hf)).2).2 this
theorem neg_ones (k : Nat) : (List.replicate k (-1 : Int)) = (List.replicate k 1).map fun i => 0 - i := by rw [List.map_replicate]; rfl
theorem best_mones (R : Bnd n hs x y) : IsBest n hs x y (List.replicate n (-1)) (0 - x.sum) ∧ ∀ z, Tops n hs x y (List.replicate n (-1)) (0 - x.sum) z → z = x := by
  have L := R.floor
  have ev : ∀ z, z.length = n → wo z (List.replicate n (-1)) = 0 - z.sum := fun z hz => by rw [neg_ones, wo_neg, wo_ones z n hz]
  have le := fun z (hz : Btw n hs x y z) => sum_le2 x z (by rw [hz.lay.len, L.lay.len]) fun f hf => (hz.btw f (by rw [← L.lay.len]; exact hf)).1
  refine ⟨⟨⟨x, L, ev x L.lay.len⟩, fun z hz => ?_⟩, fun z Z => ?_⟩
  · rw [ev z hz.lay.len]
    have := (le z hz).1
    omega
  · have := Z.w
    rw [ev z Z.b.lay.len] at this
    exact ((le z Z.b).2 (by omega)).symm
theorem best_zeros (R : Bnd n hs x y) : IsBest n hs x y (List.replicate n 0) 0 := ⟨⟨x, R.floor, wo_zeros _ _⟩, fun z _ => by rw [wo_zeros]; exact Int.le_refl _⟩
theorem told_zeros {L : List (List Int)} (a : IsAll n hs x y L) : IsTold n hs x y (List.replicate n 0) 0 L := ⟨a.nd, fun z => by rw [a.all z, wo_zeros]; simp⟩
theorem least_one {T : List (List Int)} {u v : List Int} (h : Least n T u) (hv : v.length = n) (hT : ∀ z ∈ T, z = v) : u = v := ext_getD (by rw [h.1, hv]) fun f hf => by
  obtain ⟨⟨b, hb, e⟩, _⟩ := h.2 f (by rw [← h.1]; exact hf)
  rw [← e, hT b hb]
theorem most_one {T : List (List Int)} {u v : List Int} (h : Most n T u) (hv : v.length = n) (hT : ∀ z ∈ T, z = v) : u = v := ext_getD (by rw [h.1, hv]) fun f hf => by
  obtain ⟨⟨b, hb, e⟩, _⟩ := h.2 f (by rw [← h.1]; exact hf)
  rw [← e, hT b hb]
theorem least_all {L : List (List Int)} {u : List Int} (R : Bnd n hs x y) (a : IsAll n hs x y L) (h : Least n L u) : u = x := ext_getD (by rw [h.1, R.1.2.1.len]) fun f hf => by
  rw [h.1] at hf
  obtain ⟨⟨b, hb, e⟩, h2⟩ := h.2 f hf
  have := h2 x ((a.all x).mpr R.floor)
  have := (((a.all b).mp hb).btw f hf).1
  omega
/-- moved by c -/
def mv (c : Int) (x : List Int) : List Int := x.map fun h => h + c
theorem mv_at {c : Int} (h : f < x.length) : (mv c x).getD f 0 = x.getD f 0 + c := by
  unfold mv
  rw [List.getD_eq_getElem?_getD, List.getElem?_map, getD_at h]; rfl
theorem mv_len {c : Int} : (mv c x).length = x.length := by unfold mv; rw [List.length_map]
theorem mv_mv {c : Int} : mv (-c) (mv c x) = x := by
  unfold mv
  rw [List.map_map]
  have : ((fun h => h + -c) ∘ fun h : Int => h + c) = id := by funext i; simp; omega
  rw [this, List.map_id]
/-- no height beyond a thousand -/
def Low (n : Nat) (x : List Int) : Prop := ∀ f, f < n → -1000 ≤ x.getD f 0 ∧ x.getD f 0 ≤ 1000
theorem lay_mv {c : Int} (W : WebOk n hs) (X : Lay n hs x) (lo : Low n x) (hc : -1000 ≤ c ∧ c ≤ 1000) : Lay n hs (mv c x) := by
  have hl := X.len
  refine lay_of (by rw [mv_len, hl]) (fun f hf => ?_) (fun h hm => ?_)
  · rw [mv_at (by omega)]
    have := lo f hf
    omega
  · have r := W.rng h hm
    rw [mv_at (by omega), mv_at (by omega)]
    have := X.step h hm
    omega
theorem mv_btw {c : Int} (W : WebOk n hs) (R : Bnd n hs x y) (lx : Low n x) (ly : Low n y) (hc : -1000 ≤ c ∧ c ≤ 1000) (Z : Btw n hs x y z) : Btw n hs (mv c x) (mv c y) (mv c z) := by
  have hx := R.1.2.1.len
  have hy := R.1.2.2.1.len
  have hz := Z.lay.len
  have p := W.pos
  refine ⟨lay_mv W Z.lay (fun f hf => ?_) hc, ?_, fun f hf => ?_⟩
  · have := Z.btw f hf; have := lx f hf; have := ly f hf; omega
  · rw [mv_at (by omega), mv_at (by omega)]
    have := Z.par
    omega
  · rw [mv_at (by omega), mv_at (by omega), mv_at (by omega)]
    have := Z.btw f hf
    omega
theorem mv_back {c : Int} (W : WebOk n hs) (R : Bnd n hs x y) (lx : Low n x) (ly : Low n y) (hc : -1000 ≤ c ∧ c ≤ 1000) (Z : Btw n hs (mv c x) (mv c y) z) : Btw n hs x y (mv (-c) z) := by
  have hx := R.1.2.1.len
  have hy := R.1.2.2.1.len
  have hz := Z.lay.len
  have p := W.pos
  have key : ∀ f, f < n → x.getD f 0 + c ≤ z.getD f 0 ∧ z.getD f 0 ≤ y.getD f 0 + c := fun f hf => by
    have := Z.btw f hf
    rwa [mv_at (by omega), mv_at (by omega)] at this
  refine ⟨lay_of (by rw [mv_len, hz]) (fun f hf => ?_) (fun h hm => ?_), ?_, fun f hf => ?_⟩
  · rw [mv_at (by omega)]
    have := key f hf; have := lx f hf; have := ly f hf
    omega
  · have r := W.rng h hm
    rw [mv_at (by omega), mv_at (by omega)]
    have := Z.lay.step h hm
    omega
  · rw [mv_at (by omega)]
    have := Z.par
    rw [mv_at (by omega)] at this
    omega
  · rw [mv_at (by omega)]
    have := key f hf
    omega
theorem mv_bnd {c : Int} (R : Bnd n hs x y) (lx : Low n x) (ly : Low n y) (hc : -1000 ≤ c ∧ c ≤ 1000) : Bnd n hs (mv c x) (mv c y) := by
  have W := R.1.1
  have A := mv_btw W R lx ly hc R.floor
  have B := mv_btw W R lx ly hc R.roof
  have t : Two n hs (mv c x) (mv c y) := ⟨W, A.lay, B.lay, by have := B.par; omega⟩
  exact ⟨t, (bnd_iff t).mpr fun f hf => (A.btw f hf).2⟩
theorem mv_few {c : Int} (R : Bnd n hs x y) (lx : Low n x) (ly : Low n y) (hc : -1000 ≤ c ∧ c ≤ 1000) (q : Few n hs x y) : Few n hs (mv c x) (mv c y) := fun L nd h => by
  have := q (L.map (mv (-c))) ?_ ?_
  · rwa [List.length_map] at this
  · refine List.pairwise_map.mpr (nd.imp fun {a b} e h => e ?_)
    have := congrArg (mv c) h
    have k : ∀ u, mv c (mv (-c) u) = u := fun u => by have := mv_mv (x := u) (c := -c); rwa [Int.neg_neg] at this
    rwa [k, k] at this
  · intro z hz
    obtain ⟨u, hu, e⟩ := List.mem_map.mp hz
    subst e
    exact mv_back R.1.1 R lx ly hc (h u hu)
theorem mv_rng {c : Int} (R : Rng n hs x y) (lx : Low n x) (ly : Low n y) (hc : -1000 ≤ c ∧ c ≤ 1000) : Rng n hs (mv c x) (mv c y) := ⟨mv_bnd R.1 lx ly hc, mv_few R.1 lx ly hc R.2⟩
theorem mv_best {c : Int} (R : Rng n hs x y) (lx : Low n x) (ly : Low n y) (hc : -1000 ≤ c ∧ c ≤ 1000) (hw : w.length = n) (M : IsBest n hs x y w m) : IsBest n hs (mv c x) (mv c y) w (m + c * w.sum) := by
  have W := R.1.1.1
  obtain ⟨z, hz, e⟩ := M.at_
  have wm : ∀ z c, z.length = n → wo (mv c z) w = wo z w + c * w.sum := fun z c h => wo_add z w c (by omega)
  refine ⟨⟨mv c z, mv_btw W R.1 lx ly hc hz, by rw [wm z c hz.lay.len, e]⟩, fun v hv => ?_⟩
  have b := M.top _ (mv_back W R.1 lx ly hc hv)
  rw [wm v (-c) hv.lay.len, Int.neg_mul] at b
  omega
theorem neg_best {L : List (List Int)} (a : IsAll n hs x y L) {k : Int} (h1 : ∃ z, z ∈ L ∧ wo z w = k) (h2 : ∀ z, z ∈ L → k ≤ wo z w) : IsBest n hs x y (w.map fun i => 0 - i) (0 - k) := by
  obtain ⟨z, hz, e⟩ := h1
  refine ⟨⟨z, (a.all z).mp hz, by rw [wo_neg, e]⟩, fun v hv => ?_⟩
  rw [wo_neg]
  have := h2 v ((a.all v).mpr hv)
  omega
/-- the tally's ends -/
theorem tally_last {L : List (List Int)} {its : List (Int × Int)} (a : IsAll n hs x y L) (R : Bnd n hs x y) (t : Tally L w its) (M : IsBest n hs x y w m) : its.getLast? = some (m, ((L.filter fun z => decide (wo z w = m)).length : Int)) := by
  obtain ⟨z, hz, e⟩ := M.at_
  obtain ⟨b, hb⟩ := t.has z ((a.all z).mpr hz)
  rw [e] at hb
  have ne : its ≠ [] := List.ne_nil_of_mem hb
  rw [List.getLast?_eq_some_getLast ne]
  generalize hg : its.getLast ne = g
  have hgm : g ∈ its := hg ▸ List.getLast_mem ne
  obtain ⟨⟨v, hv, ev⟩, ec⟩ := t.of g.1 g.2 hgm
  have le := M.top v ((a.all v).mp hv)
  have ge : m ≤ g.1 := by
    have e2 : its = its.dropLast ++ [g] := by rw [← hg]; exact (List.dropLast_concat_getLast ne).symm
    have s := t.srt
    rw [e2] at hb s
    rcases List.mem_append.mp hb with hb | hb
    · have := (List.pairwise_append.mp s).2.2 _ hb g (by simp)
      simp at this
      omega
    · have : (m, b) = g := by simpa using hb
      rw [← this]; exact Int.le_refl _
  have eg : g.1 = m := by omega
  rw [show g = (g.1, g.2) from rfl, ec, eg]
theorem tally_first {L : List (List Int)} {its : List (Int × Int)} (a : IsAll n hs x y L) (R : Bnd n hs x y) (t : Tally L w its) : ∃ g rest, its = g :: rest ∧ (∃ z, z ∈ L ∧ wo z w = g.1) ∧ ∀ z, z ∈ L → g.1 ≤ wo z w := by
  obtain ⟨b, hb⟩ := t.has x ((a.all x).mpr R.floor)
  cases its with
  | nil => cases hb
  | cons g rest =>
    refine ⟨g, rest, rfl, (t.of g.1 g.2 List.mem_cons_self).1, fun z hz => ?_⟩
    obtain ⟨c, hc⟩ := t.has z hz
    rcases List.mem_cons.mp hc with e | hc
    · rw [← e]; exact Int.le_refl _
    · have := (List.pairwise_cons.mp t.srt).1 _ hc
      simp at this
      omega
end
end TW
/-! TWM5: how many layings lie between; trees; drawn webs. -/
namespace TW
inductive Grown (hs : List (Nat × Nat)) : List Nat → Prop
  | one : Grown hs [0]
  | more {l : List Nat} {f g : Nat} : Grown hs l → g ∈ l → Adj hs f g → f ∉ l → Grown hs (f :: l)
section
variable {n : Nat} {hs : List (Nat × Nat)} {x y z a b : List Int} {f : Nat}
theorem Grown.nd {l : List Nat} (h : Grown hs l) : l.Nodup := by
  induction h with
  | one => simp
  | more _ _ _ h ih => exact List.nodup_cons.mpr ⟨h, ih⟩
theorem Grown.zero {l : List Nat} (h : Grown hs l) : 0 ∈ l := by
  induction h with
  | one => simp
  | more _ _ _ h ih => exact List.mem_cons_of_mem _ ih
theorem Grown.lt {l : List Nat} (W : WebOk n hs) (h : Grown hs l) : ∀ f ∈ l, f < n := by
  induction h with
  | one => intro f hf; have : f = 0 := by simpa using hf
           subst this; exact W.pos
  | more _ _ a h ih =>
    intro f hf
    rcases List.mem_cons.mp hf with rfl | hf
    · exact (W.adj a).1
    · exact ih f hf
theorem grown_ex (W : WebOk n hs) : ∀ k, 1 ≤ k → k ≤ n → ∃ l, Grown hs l ∧ l.length = k
  | 0, h, _ => by omega
  | 1, _, _ => ⟨[0], .one, rfl⟩
  | k + 2, _, hk => by
    obtain ⟨l, G, hl⟩ := grown_ex W (k + 1) (by omega) (by omega)
    refine Classical.byContradiction fun no => ?_
    have cl : ∀ a b, Adj hs a b → a ∈ l → b ∈ l := fun a b h ha => Decidable.by_contra fun hb => no ⟨b :: l, .more G ha h.symm hb, by rw [List.length_cons, hl]⟩
    have all := W.conn (fun f => f ∈ l) cl (first := 0) W.pos G.zero
    have := nodup_sub_len (l := List.range n) (m := l) List.nodup_range fun f hf => all f (List.mem_range.mp hf)
    rw [List.length_range] at this
    omega
theorem grown_all (W : WebOk n hs) : ∃ l, Grown hs l ∧ l.length = n ∧ ∀ f, f < n → f ∈ l := by
  obtain ⟨l, G, hl⟩ := grown_ex W n W.pos (Nat.le_refl _)
  refine ⟨l, G, hl, fun f hf => Decidable.by_contra fun no => ?_⟩
  have := nodup_sub_len (l := f :: l) (m := List.range n) (List.nodup_cons.mpr ⟨no, G.nd⟩) fun g hg => List.mem_range.mpr (by
    rcases List.mem_cons.mp hg with rfl | hg
    · exact hf
    · exact G.lt W g hg)
  rw [List.length_range, List.length_cons] at this
  omega
def Diff (l : List Nat) (z v : List Int) : Prop := ∃ f, f ∈ l ∧ z.getD f 0 ≠ v.getD f 0
theorem count_grown (c : Int) (k : Nat) {l : List Nat} (g : Grown hs l) : ∀ L : List (List Int), (∀ z ∈ L, Lay n hs z ∧ ∃ i : Nat, i < k ∧ z.getD 0 0 = c + 2 * i) → L.Pairwise (Diff l) → L.length ≤ k * 2 ^ (l.length - 1) := by
  induction g with
  | one =>
    intro L h p
    have nd : (L.map fun z => z.getD 0 0).Nodup := List.pairwise_map.mpr (p.imp fun {a b} ⟨f, hf, e⟩ => by
      have : f = 0 := by simpa using hf
      subst this; exact e)
    have := nodup_sub_len (m := (List.range k).map fun i : Nat => c + 2 * (i : Int)) nd fun v hv => by
      obtain ⟨z, hz, e⟩ := List.mem_map.mp hv
      obtain ⟨i, hi, e2⟩ := (h z hz).2
      exact List.mem_map.mpr ⟨i, List.mem_range.mpr hi, by rw [← e, e2]⟩
    rw [List.length_map, List.length_map, List.length_range] at this
    simpa using this
  | @more l f g G hg ad hf ih =>
    intro L h p
    have hl : 1 ≤ l.length := List.length_pos_of_mem hg
    have pe := (List.filter_append_perm (fun z : List Int => decide (z.getD g 0 < z.getD f 0)) L).length_eq
    rw [List.length_append] at pe
    have u := ih (L.filter fun z => decide (z.getD g 0 < z.getD f 0)) (fun z hz => h z (List.mem_filter.mp hz).1) (by
      refine (List.Pairwise.filter _ p).imp_of_mem ?_
      rintro a b ha hb ⟨e, he, ne⟩
      rcases List.mem_cons.mp he with rfl | he
      · obtain ⟨a1, a2⟩ := List.mem_filter.mp ha
        obtain ⟨b1, b2⟩ := List.mem_filter.mp hb
        have a2 := of_decide_eq_true a2
        have b2 := of_decide_eq_true b2
        have s1 := adj_step (h a a1).1 ad
        have s2 := adj_step (h b b1).1 ad
        exact ⟨g, hg, by omega⟩
      · exact ⟨e, he, ne⟩)
    have v := ih (L.filter fun z => !decide (z.getD g 0 < z.getD f 0)) (fun z hz => h z (List.mem_filter.mp hz).1) (by
      refine (List.Pairwise.filter _ p).imp_of_mem ?_
      rintro a b ha hb ⟨e, he, ne⟩
      rcases List.mem_cons.mp he with rfl | he
      · obtain ⟨a1, a2⟩ := List.mem_filter.mp ha
        obtain ⟨b1, b2⟩ := List.mem_filter.mp hb
        simp at a2 b2
        have s1 := adj_step (h a a1).1 ad
        have s2 := adj_step (h b b1).1 ad
        simp only [List.getD_eq_getElem?_getD] at s1 s2 ne ⊢
        exact ⟨g, hg, by simp only [List.getD_eq_getElem?_getD]; omega⟩
      · exact ⟨e, he, ne⟩)
    rw [List.length_cons]
    have e2 : 2 ^ (l.length + 1 - 1) = 2 * 2 ^ (l.length - 1) := by
      obtain ⟨q, hq⟩ : ∃ q, l.length = q + 1 := ⟨l.length - 1, by omega⟩
      rw [hq]
      show 2 ^ (q + 1) = 2 * 2 ^ q
      rw [Nat.pow_succ]; omega
    rw [e2, Nat.mul_left_comm]
    omega
/-- few layings lie between -/
theorem few_of (B : Bnd n hs x y) (d : y.getD 0 0 - x.getD 0 0 ≤ 28) : Few n hs x y := by
  intro L nd h
  have W := B.1.1
  obtain ⟨l, G, hl, all⟩ := grown_all W
  have key := count_grown (n := n) (hs := hs) (x.getD 0 0) 15 G L (fun z hz => by
    have Z := h z hz
    have b := Z.btw 0 W.pos
    have p := Z.par
    refine ⟨Z.lay, ((z.getD 0 0 - x.getD 0 0) / 2).toNat, ?_, ?_⟩ <;> omega) (by
    refine nd.imp_of_mem ?_
    intro a b ha hb ne
    refine Classical.byContradiction fun no => ne (ext_getD (by rw [(h a ha).lay.len, (h b hb).lay.len]) fun f hf => ?_)
    rw [(h a ha).lay.len] at hf
    refine Decidable.by_contra fun e => no ⟨f, all f hf, e⟩)
  rw [hl] at key
  have : 2 ^ (n - 1) ≤ 2 ^ 5 := Nat.pow_le_pow_right (by decide) (by have := W.small; omega)
  omega
theorem grown_near {l : List Nat} (G : Grown hs l) (Z : Lay n hs z) : ∀ f ∈ l, (z.getD f 0 - z.getD 0 0).natAbs ≤ l.length := by
  induction G with
  | one => intro f hf; have : f = 0 := by simpa using hf
           subst this; simp
  | @more l f g G hg ad hf ih =>
    intro e he
    rw [List.length_cons]
    rcases List.mem_cons.mp he with rfl | he
    · have := ih g hg
      have := adj_step Z ad
      omega
    · have := ih e he; omega
theorem lay_near (W : WebOk n hs) (Z : Lay n hs z) : ∀ f, f < n → (z.getD f 0 - z.getD 0 0).natAbs ≤ 6 := fun f hf => by
  obtain ⟨l, G, hl, all⟩ := grown_all W
  have := grown_near G Z f (all f hf)
  have := W.small
  omega
theorem has_nbr (W : WebOk n hs) (h : 2 ≤ n) : ∃ u, Adj hs 0 u := by
  refine Classical.byContradiction fun no => ?_
  have := W.conn (fun f => f = 0) (fun a b h e => absurd ⟨b, e ▸ h⟩ no) (first := 0) W.pos rfl 1 (by omega)
  omega
end

/-! ### trees -/
structure Tre (n : Nat) (names : List Nat) (k : Nat) (ts : List (Nat × Nat)) : Prop where
  rng : ∀ h ∈ ts, h.1 < h.2 ∧ h.2 < n
  par : ∃ par : Nat → Bool, ∀ h ∈ ts, par h.1 ≠ par h.2
  nd : ts.Nodup
  len : ts.length + 1 = k
  old : ∀ h ∈ ts, h.1 ∈ names.take k ∧ h.2 ∈ names.take k
  con : ∀ S : Nat → Prop, (∀ h ∈ ts, (S h.1 ↔ S h.2)) → ∀ a ∈ names.take k, ∀ b ∈ names.take k, (S a ↔ S b)
def mm (a b : Nat) : Nat × Nat := (min a b, max a b)
theorem mm_cases (a b : Nat) : (mm a b = (a, b) ∧ a ≤ b) ∨ (mm a b = (b, a) ∧ b ≤ a) := by
  unfold mm
  rcases Nat.le_total a b with h | h
  · exact .inl ⟨by rw [Nat.min_eq_left h, Nat.max_eq_right h], h⟩
  · exact .inr ⟨by rw [Nat.min_eq_right h, Nat.max_eq_left h], h⟩
section
variable {n : Nat} {names : List Nat} {k : Nat} {ts : List (Nat × Nat)}
theorem tre_one (h : 1 ≤ names.length) : Tre n names 1 [] := by
  refine ⟨by simp, ⟨fun _ => true, by simp⟩, by simp, rfl, by simp, fun S _ a ha b hb => ?_⟩
  cases names with
  | nil => simp at h
  | cons c r =>
    have e1 : a = c := by simpa using ha
    have e2 : b = c := by simpa using hb
    rw [e1, e2]
theorem tre_more (nn : names.Nodup) (hn : ∀ a ∈ names, a < n) (hk : k < names.length) (T : Tre n names k ts) {j u v : Nat} (hj : j < k) (hu : names[k]? = some u) (hv : names[j]? = some v) : Tre n names (k + 1) (ts ++ [mm u v]) := by
  have et : names.take (k + 1) = names.take k ++ [u] := by rw [List.take_succ, hu]; rfl
  have vm : v ∈ names.take k := by
    refine List.mem_of_getElem? (i := j) ?_
    rw [List.getElem?_take, if_pos hj]; exact hv
  have un : u ∉ names.take k := by
    have h2 : names.Nodup := nn
    rw [← List.take_append_drop k names] at h2
    have hd : u ∈ names.drop k := List.mem_of_getElem? (i := 0) (by rw [List.getElem?_drop]; exact hu)
    intro h
    exact (List.nodup_append.mp h2).2.2 u h u hd rfl
  have uv : u ≠ v := fun e => un (e ▸ vm)
  have ul := hn u (List.mem_of_getElem? hu)
  have vl := hn v (List.mem_of_getElem? hv)
  have ho : ∀ h ∈ ts, h.1 ≠ u ∧ h.2 ≠ u := fun h hm => ⟨fun e => un (e ▸ (T.old h hm).1), fun e => un (e ▸ (T.old h hm).2)⟩
  obtain ⟨par, hp⟩ := T.par
  refine ⟨fun h hm => ?_, ⟨fun f => if f = u then !par v else par f, fun h hm => ?_⟩, ?_, by rw [List.length_append, List.length_singleton, T.len], fun h hm => ?_, fun S hS a ha b hb => ?_⟩
  · rcases List.mem_append.mp hm with hm | hm
    · exact T.rng h hm
    · have : h = mm u v := by simpa using hm
      subst this
      rcases mm_cases u v with ⟨e, l⟩ | ⟨e, l⟩ <;> rw [e] <;> simp only <;> omega
  · dsimp only
    rcases List.mem_append.mp hm with hm | hm
    · rw [if_neg (ho h hm).1, if_neg (ho h hm).2]; exact hp h hm
    · have : h = mm u v := by simpa using hm
      subst this
      rcases mm_cases u v with ⟨e, l⟩ | ⟨e, l⟩ <;> rw [e] <;> simp [Ne.symm uv]
  · rw [List.nodup_append]
    refine ⟨T.nd, by simp, fun a ha b hb e => ?_⟩
    have : b = mm u v := by simpa using hb
    rw [← e] at this
    have h2 := ho a ha
    rcases mm_cases u v with ⟨e3, l⟩ | ⟨e3, l⟩ <;> rw [this, e3] at h2
    · exact h2.1 rfl
    · exact h2.2 rfl
  · rw [et]
    rcases List.mem_append.mp hm with hm | hm
    · exact ⟨List.mem_append_left _ (T.old h hm).1, List.mem_append_left _ (T.old h hm).2⟩
    · have : h = mm u v := by simpa using hm
      subst this
      rcases mm_cases u v with ⟨e, l⟩ | ⟨e, l⟩ <;> rw [e]
      · exact ⟨List.mem_append_right _ (by simp), List.mem_append_left _ vm⟩
      · exact ⟨List.mem_append_left _ vm, List.mem_append_right _ (by simp)⟩
  · have c := T.con S fun h hm => hS h (List.mem_append_left _ hm)
    have s : S u ↔ S v := by
      have := hS (mm u v) (List.mem_append_right _ (by simp))
      rcases mm_cases u v with ⟨e, l⟩ | ⟨e, l⟩ <;> rw [e] at this
      · exact this
      · exact this.symm
    have toV : ∀ a ∈ names.take (k + 1), (S a ↔ S v) := fun a ha => by
      rw [et] at ha
      rcases List.mem_append.mp ha with ha | ha
      · exact c a ha v vm
      · have : a = u := by simpa using ha
        rw [this]; exact s
    exact (toV a ha).trans (toV b hb).symm
end

/-! ### webs, drawn -/
structure Pre (n : Nat) (par : Nat → Bool) (hs : List (Nat × Nat)) : Prop where
  pos : 1 ≤ n
  small : n ≤ 6
  rng : ∀ h ∈ hs, h.1 < h.2 ∧ h.2 < n
  nd : hs.Nodup
  par : ∀ h ∈ hs, par h.1 ≠ par h.2
  con : ∀ S : Nat → Prop, (∀ h ∈ hs, (S h.1 ↔ S h.2)) → S 0 → ∀ f, f < n → S f
section
variable {n : Nat} {names : List Nat} {k : Nat} {ts hs : List (Nat × Nat)} {par : Nat → Bool}
theorem tre_pre (hn1 : 1 ≤ n) (hn6 : n ≤ 6) (hp : names.Perm (List.range n)) (T : Tre n names n ts) : ∃ par, Pre n par ts := by
  obtain ⟨par, h⟩ := T.par
  refine ⟨par, hn1, hn6, T.rng, T.nd, h, fun S hS h0 f hf => ?_⟩
  have hl : names.length = n := by rw [hp.length_eq, List.length_range]
  have mem : ∀ f, f < n → f ∈ names.take n := fun f hf => by
    rw [← hl, List.take_length]
    exact hp.mem_iff.mpr (List.mem_range.mpr hf)
  exact (T.con S hS 0 (mem 0 hn1) f (mem f hf)).mp h0
theorem Pre.add (P : Pre n par hs) {a b : Nat} (ha : a < n) (hb : b < n) (hp : par a ≠ par b) (hn : mm a b ∉ hs) : Pre n par (hs ++ [mm a b]) := by
  have ab : a ≠ b := fun e => hp (e ▸ rfl)
  refine ⟨P.pos, P.small, fun h hm => ?_, ?_, fun h hm => ?_, fun S hS => P.con S fun h hm => hS h (List.mem_append_left _ hm)⟩
  · rcases List.mem_append.mp hm with hm | hm
    · exact P.rng h hm
    · have : h = mm a b := by simpa using hm
      subst this
      rcases mm_cases a b with ⟨e, l⟩ | ⟨e, l⟩ <;> rw [e] <;> simp only <;> omega
  · rw [List.nodup_append]
    refine ⟨P.nd, by simp, fun c hc d hd e => ?_⟩
    have : d = mm a b := by simpa using hd
    exact hn (this ▸ e ▸ hc)
  · rcases List.mem_append.mp hm with hm | hm
    · exact P.par h hm
    · have : h = mm a b := by simpa using hm
      subst this
      rcases mm_cases a b with ⟨e, l⟩ | ⟨e, l⟩ <;> rw [e]
      · exact hp
      · exact fun e => hp e.symm
theorem Pre.len (P : Pre n par hs) : hs.length ≤ 36 := by
  have := nodup_sub_len (m := (List.range 6).flatMap fun a => (List.range 6).map fun b => (a, b)) P.nd fun h hm => by
    have := P.rng h hm
    have := P.small
    rw [List.mem_flatMap]
    exact ⟨h.1, List.mem_range.mpr (by omega), List.mem_map.mpr ⟨h.2, List.mem_range.mpr (by omega), rfl⟩⟩
  have e : ((List.range 6).flatMap fun a => (List.range 6).map fun b => (a, b)).length = 36 := by decide
  omega
theorem Pre.web (P : Pre n par hs) {ms : List (Nat × Nat)} (hp : ms.Perm hs) (hs' : ms.Pairwise fun a b => ¬ (b.1 < a.1 ∨ (b.1 = a.1 ∧ b.2 < a.2))) : WebOk n ms := by
  refine ⟨P.pos, P.small, fun h hm => P.rng h (hp.mem_iff.mp hm), ?_, ⟨par, fun h hm => P.par h (hp.mem_iff.mp hm)⟩, fun S hS => P.con S fun h hm => hS h (hp.mem_iff.mpr hm), ?_⟩
  · have nd : ms.Nodup := hp.nodup_iff.mpr P.nd
    refine (List.pairwise_and_iff.mpr ⟨hs', nd⟩).imp ?_
    rintro ⟨a1, a2⟩ ⟨b1, b2⟩ ⟨h1, h2⟩
    simp only at *
    have : ¬ (a1 = b1 ∧ a2 = b2) := fun h => h2 (by rw [h.1, h.2])
    omega
  · rw [hp.length_eq]
    have := P.len
    omega
end
end TW
/-! TWM6: how far, by layers; drawn layings. -/
namespace TW
/-! ### breadth first, by layers -/
def nones (fs : List (Option Int)) : Nat := (fs.filter fun o => o.isNone).length
theorem nones_set : ∀ {fs : List (Option Int)} {g : Nat} {v : Int}, fs[g]? = some none → nones (fs.set g (some v)) + 1 = nones fs
  | [], g, v, h => by simp at h
  | o :: fs, 0, v, h => by
    have : o = none := by simpa using h
    subst this
    simp [nones]
  | o :: fs, g + 1, v, h => by
    have ih := nones_set (fs := fs) (g := g) (v := v) (by simpa using h)
    unfold nones at *
    rw [List.set_cons_succ]
    cases o <;> simp [List.filter_cons] at * <;> omega
structure Lev (n : Nat) (hs : List (Nat × Nat)) (par : Nat → Bool) (first : Nat) (fs : List (Option Int)) (m : Int) (rim later : List Nat) (done : Nat → Nat → Prop) : Prop where
  len : fs.length = n
  m0 : 0 ≤ m
  fst : fs[first]? = some (some 0)
  val : ∀ f k, fs[f]? = some (some k) → 0 ≤ k ∧ k ≤ m + 1 ∧ k % 2 = parI par first f ∧ (f ≠ first → ∃ g, Adj hs f g ∧ fs[g]? = some (some (k - 1)))
  rim : ∀ f, f ∈ rim ↔ fs[f]? = some (some m)
  lat : ∀ f, f ∈ later ↔ fs[f]? = some (some (m + 1))
  cls : ∀ f k, fs[f]? = some (some k) → k < m → ∀ g, Adj hs f g → ∃ j, fs[g]? = some (some j) ∧ j ≤ k + 1
  don : ∀ f g, done f g → ∃ j, fs[g]? = some (some j) ∧ j ≤ m + 1
structure FarOk (n : Nat) (hs : List (Nat × Nat)) (first : Nat) (ks : List Int) : Prop where
  len : ks.length = n
  fst : ks.getD first 0 = 0
  step : ∀ a b, Adj hs a b → (ks.getD a 0 - ks.getD b 0).natAbs = 1
  val : ∀ f, f < n → 0 ≤ ks.getD f 0 ∧ ks.getD f 0 < n
  desc : ∀ f, f < n → f ≠ first → ∃ g, Adj hs f g ∧ ks.getD g 0 = ks.getD f 0 - 1
section
variable {n : Nat} {hs : List (Nat × Nat)} {par : Nat → Bool} {first : Nat} {fs : List (Option Int)} {m : Int} {rim later : List Nat} {done : Nat → Nat → Prop}
theorem lev_start (h : first < n) : Lev n hs par first ((List.replicate n none).set first (some 0)) 0 [first] [] (fun _ _ => False) := by
  have key : ∀ f k, ((List.replicate n none).set first (some 0))[f]? = some (some k) → f = first ∧ k = (0 : Int) := fun f k e => by
    by_cases hf : first = f
    · subst hf
      rw [List.getElem?_set_self (by simpa using h)] at e
      exact ⟨rfl, by cases e; rfl⟩
    · rw [List.getElem?_set_ne hf, List.getElem?_replicate] at e
      split at e <;> simp at e
  refine ⟨by simp, Int.le_refl _, by simp [h], fun f k e => ?_, fun f => ⟨fun e => ?_, fun e => by simp [(key f _ e).1]⟩, fun f => ⟨fun e => by simp at e, fun e => by have := (key f _ e).2; omega⟩, fun f k e hk => ?_, fun _ _ h => h.elim⟩
  · obtain ⟨rfl, rfl⟩ := key f k e
    exact ⟨Int.le_refl _, by omega, by simp [parI], fun h => absurd rfl h⟩
  · have : f = first := by simpa using e
    subst this; simp [h]
  · have := (key f k e).2; omega
/-- a neighbor met for the first time -/
theorem Lev.new (L : Lev n hs par first fs m rim later done) (p : Par hs par) {u g : Nat} (hu : u ∈ rim) (ha : Adj hs u g) (hg : fs[g]? = some none) : Lev n hs par first (fs.set g (some (m + 1))) m rim (later ++ [g]) (fun a b => done a b ∨ (a = u ∧ b = g)) := by
  have hgn : g < fs.length := (List.getElem?_eq_some_iff.mp hg).1
  have hu' := (L.rim u).mp hu
  have ne : ∀ f k, fs[f]? = some (some k) → g ≠ f := fun f k e q => by rw [← q, hg] at e; cases e
  have keep : ∀ f k, fs[f]? = some (some k) → (fs.set g (some (m + 1)))[f]? = some (some k) := fun f k e => by rw [List.getElem?_set_ne (ne f k e)]; exact e
  have back : ∀ f k, (fs.set g (some (m + 1)))[f]? = some (some k) → (f = g ∧ k = m + 1) ∨ fs[f]? = some (some k) := fun f k e => by
    by_cases q : g = f
    · subst q
      rw [List.getElem?_set_self hgn] at e
      cases e; exact .inl ⟨rfl, rfl⟩
    · rw [List.getElem?_set_ne q] at e; exact .inr e
  refine ⟨by rw [List.length_set]; exact L.len, L.m0, keep _ _ L.fst, fun f k e => ?_, fun f => ⟨fun h => keep _ _ ((L.rim f).mp h), fun h => ?_⟩, fun f => ⟨fun h => ?_, fun h => ?_⟩, fun f k e hk h had => ?_, fun a b h => ?_⟩
  · rcases back f k e with ⟨rfl, rfl⟩ | e
    · have m0 := L.m0
      exact ⟨by omega, by omega, parI_flip (p.adj ha) (L.val u m hu').2.2.1, fun _ => ⟨u, ha.symm, by rw [show m + 1 - 1 = m by omega]; exact keep _ _ hu'⟩⟩
    · obtain ⟨a, b, c, d⟩ := L.val f k e
      exact ⟨a, b, c, fun h => let ⟨q, r, t⟩ := d h; ⟨q, r, keep _ _ t⟩⟩
  · rcases back f m h with ⟨_, e⟩ | e
    · omega
    · exact (L.rim f).mpr e
  · rcases List.mem_append.mp h with h | h
    · exact keep _ _ ((L.lat f).mp h)
    · have : f = g := by simpa using h
      subst this; exact List.getElem?_set_self hgn
  · rcases back f _ h with ⟨rfl, _⟩ | e
    · exact List.mem_append_right _ (by simp)
    · exact List.mem_append_left _ ((L.lat f).mpr e)
  · rcases back f k e with ⟨_, q⟩ | e
    · omega
    · obtain ⟨j, hj, hl⟩ := L.cls f k e hk h had
      exact ⟨j, keep _ _ hj, hl⟩
  · rcases h with h | ⟨_, rfl⟩
    · obtain ⟨j, hj, hl⟩ := L.don a b h
      exact ⟨j, keep _ _ hj, hl⟩
    · exact ⟨m + 1, List.getElem?_set_self hgn, Int.le_refl _⟩
/-- a neighbor that was met before -/
theorem Lev.old (L : Lev n hs par first fs m rim later done) {u g : Nat} {k : Int} (hg : fs[g]? = some (some k)) : Lev n hs par first fs m rim later (fun a b => done a b ∨ (a = u ∧ b = g)) :=
  ⟨L.len, L.m0, L.fst, L.val, L.rim, L.lat, L.cls, fun a b h => by
    rcases h with h | ⟨_, rfl⟩
    · exact L.don a b h
    · exact ⟨k, hg, (L.val _ _ hg).2.1⟩⟩
theorem Lev.imp (L : Lev n hs par first fs m rim later done) {done' : Nat → Nat → Prop} (h : ∀ a b, done' a b → done a b) : Lev n hs par first fs m rim later done' := ⟨L.len, L.m0, L.fst, L.val, L.rim, L.lat, L.cls, fun a b q => L.don a b (h a b q)⟩
/-- a layer is through -/
theorem Lev.next (L : Lev n hs par first fs m rim later done) (hd : ∀ u ∈ rim, ∀ g, Adj hs u g → done u g) : Lev n hs par first fs (m + 1) later [] (fun _ _ => False) := by
  have m0 := L.m0
  refine ⟨L.len, by omega, L.fst, fun f k e => ?_, L.lat, fun f => ⟨fun e => by simp at e, fun e => ?_⟩, fun f k e hk g ha => ?_, fun _ _ h => h.elim⟩
  · obtain ⟨a, b, c, d⟩ := L.val f k e
    exact ⟨a, by omega, c, d⟩
  · have := (L.val f _ e).2.1; omega
  · by_cases q : k < m
    · exact L.cls f k e q g ha
    · have : k = m := by omega
      subst this
      exact L.don f g (hd f ((L.rim f).mpr e) g ha)
/-- no more layer: all is told -/
theorem Lev.all (L : Lev n hs par first fs m [] later (fun _ _ => False)) (hlat : later = []) (W : WebOk n hs) (p : Par hs par) : ∃ ks : List Int, fs = ks.map some ∧ FarOk n hs first ks := by
  subst hlat
  have lt : ∀ f k, fs[f]? = some (some k) → k < m := fun f k e => by
    have h1 := (L.val f k e).2.1
    have h2 : k ≠ m := fun q => by have := (L.rim f).mpr (q ▸ e); simp at this
    have h3 : k ≠ m + 1 := fun q => by have := (L.lat f).mpr (q ▸ e); simp at this
    omega
  have hfirst : first < n := by rw [← L.len]; exact (List.getElem?_eq_some_iff.mp L.fst).1
  have all := W.conn (fun f => ∃ k, fs[f]? = some (some k)) (fun a b h ⟨k, e⟩ => let ⟨j, hj, _⟩ := L.cls a k e (lt a k e) b h; ⟨j, hj⟩) hfirst ⟨0, L.fst⟩
  have gd : ∀ f k, fs[f]? = some (some k) → (fs.map fun o => o.getD 0).getD f 0 = k := fun f k e => by
    rw [List.getD_eq_getElem?_getD, List.getElem?_map, e]; rfl
  have stp : ∀ a b, Adj hs a b → ∃ i j, fs[a]? = some (some i) ∧ fs[b]? = some (some j) ∧ (i - j).natAbs = 1 := fun a b h => by
    obtain ⟨ha, hb⟩ := W.adj h
    obtain ⟨i, ei⟩ := all a ha
    obtain ⟨j, ej⟩ := all b hb
    obtain ⟨j', ej', l1⟩ := L.cls a i ei (lt a i ei) b h
    obtain ⟨i', ei', l2⟩ := L.cls b j ej (lt b j ej) a h.symm
    rw [ej] at ej'; rw [ei] at ei'
    cases ej'; cases ei'
    have p1 := (L.val a _ ei).2.2.1
    have p2 := (L.val b _ ej).2.2.1
    have := parI_sum (first := first) (p.adj h)
    refine ⟨_, _, ei, ej, ?_⟩
    omega
  have dsc : ∀ f k, fs[f]? = some (some k) → f ≠ first → ∃ g, Adj hs f g ∧ fs[g]? = some (some (k - 1)) := fun f k e h => (L.val f k e).2.2.2 h
  -- a value k needs k more fields
  have chain : ∀ (k : Nat) (f : Nat), fs[f]? = some (some (k : Int)) → ∃ l : List Nat, l.Nodup ∧ l.length = k + 1 ∧ ∀ g ∈ l, g < n ∧ ∃ j, fs[g]? = some (some j) ∧ j ≤ k := by
    intro k
    induction k with
    | zero => exact fun f e => ⟨[f], by simp, rfl, fun g hg => by
        have : g = f := by simpa using hg
        subst this
        exact ⟨by rw [← L.len]; exact (List.getElem?_eq_some_iff.mp e).1, _, e, Int.le_refl _⟩⟩
    | succ k ih =>
      intro f e
      have nf : f ≠ first := fun q => by rw [q, L.fst] at e; cases e
      obtain ⟨g, ha, eg⟩ := dsc f _ e nf
      obtain ⟨l, h1, h2, h3⟩ := ih g (by rw [eg]; congr 2; omega)
      refine ⟨f :: l, List.nodup_cons.mpr ⟨fun hf => ?_, h1⟩, by rw [List.length_cons, h2], fun v hv => ?_⟩
      · obtain ⟨_, j, ej, hj⟩ := h3 f hf
        rw [e] at ej
        cases ej
        omega
      · rcases List.mem_cons.mp hv with rfl | hv
        · exact ⟨by rw [← L.len]; exact (List.getElem?_eq_some_iff.mp e).1, _, e, Int.le_refl _⟩
        · obtain ⟨a, j, ej, hj⟩ := h3 v hv
          exact ⟨a, j, ej, by omega⟩
  refine ⟨fs.map fun o => o.getD 0, ?_, by rw [List.length_map]; exact L.len, gd _ _ L.fst, fun a b h => ?_, fun f hf => ?_, fun f hf h => ?_⟩
  · apply List.ext_getElem?
    intro f
    by_cases h : f < n
    · obtain ⟨k, e⟩ := all f h
      simp [e]
    · rw [List.getElem?_eq_none (by rw [L.len]; omega), List.getElem?_eq_none (by simp [L.len]; omega)]
  · obtain ⟨i, j, ei, ej, h1⟩ := stp a b h
    rw [gd _ _ ei, gd _ _ ej]; exact h1
  · obtain ⟨k, e⟩ := all f hf
    rw [gd _ _ e]
    have v := (L.val f k e).1
    refine ⟨v, ?_⟩
    obtain ⟨l, h1, h2, h3⟩ := chain k.toNat f (by rw [e]; congr 2; omega)
    have := nodup_le h1 fun g hg => (h3 g hg).1
    omega
  · obtain ⟨k, e⟩ := all f hf
    obtain ⟨g, ha, eg⟩ := dsc f k e h
    exact ⟨g, ha, by rw [gd _ _ e, gd _ _ eg]⟩
end
section
variable {n : Nat} {hs : List (Nat × Nat)} {first f : Nat} {told away z v b : List Int}
theorem FarOk.par (F : FarOk n hs first told) (W : WebOk n hs) {par : Nat → Bool} (p : Par hs par) (h : first < n) : ∀ f, f < n → told.getD f 0 % 2 = parI par first f :=
  W.conn (fun f => told.getD f 0 % 2 = parI par first f) (fun a c ha e => by
    have := F.step a c ha
    have := parI_sum (first := first) (p.adj ha)
    omega) h (by rw [F.fst]; simp [parI])
theorem far_sym (F : FarOk n hs 0 told) (A : FarOk n hs f away) (W : WebOk n hs) (hf : f < n) : away.getD 0 0 ≤ told.getD f 0 := by
  have key : ∀ (k : Nat) g, g < n → told.getD g 0 = k → away.getD 0 0 ≤ away.getD g 0 + k := by
    intro k
    induction k with
    | zero =>
      intro g hg e
      by_cases q : g = 0
      · subst q; omega
      · obtain ⟨u, hu, eu⟩ := F.desc g hg q
        have := (F.val u (W.adj hu).2).1
        omega
    | succ k ih =>
      intro g hg e
      have q : g ≠ 0 := fun q => by rw [q, F.fst] at e; omega
      obtain ⟨u, hu, eu⟩ := F.desc g hg q
      have := ih u (W.adj hu).2 (by omega)
      have := A.step g u hu
      omega
  have := key (told.getD f 0).toNat f hf (by have := (F.val f hf).1; omega)
  have := A.fst
  have := (F.val f hf).1
  omega
/-- a laying before the deeds -/
structure Base (n : Nat) (hs : List (Nat × Nat)) (z : List Int) : Prop where
  lay : Lay n hs z
  even : z.getD 0 0 % 2 = 0
  low : -4 ≤ z.getD 0 0
  high : z.getD 0 0 ≤ 4 + 2 * ((n : Int) - 1)
theorem mapD {g : Int → Int} {l : List Int} (h : f < l.length) : (l.map g).getD f 0 = g (l.getD f 0) := by
  rw [List.getD_eq_getElem?_getD, List.getElem?_map, getD_at h]; rfl
theorem far_parity (F : FarOk n hs 0 told) (A : FarOk n hs f away) (W : WebOk n hs) (hf : f < n) : (told.getD f 0 + away.getD 0 0) % 2 = 0 := by
  obtain ⟨par, p⟩ := W.par
  have h1 := F.par W p W.pos f hf
  have h2 := A.par W p hf 0 W.pos
  unfold parI at *
  by_cases e : par f = par 0
  · rw [if_pos e] at h1; rw [if_pos e.symm] at h2; omega
  · rw [if_neg e] at h1; rw [if_neg (fun q => e q.symm)] at h2; omega
/-- a hill, a hole -/
theorem base_up (F : FarOk n hs 0 told) (A : FarOk n hs f away) (W : WebOk n hs) (hf : f < n) {t : Int} (ht : 0 ≤ t ∧ t < 5) : Base n hs (away.map fun k => told.getD f 0 + 2 * (t - 2) + k) := by
  have al := A.len
  have p := W.pos
  have d : ∀ g, g < n → (away.map fun k => told.getD f 0 + 2 * (t - 2) + k).getD g 0 = told.getD f 0 + 2 * (t - 2) + away.getD g 0 := fun g hg => mapD (by omega)
  have small := W.small
  have tf := F.val f hf
  have a0 := A.val 0 p
  have pa := far_parity F A W hf
  refine ⟨lay_of (by rw [List.length_map, al]) (fun g hg => ?_) (fun h hm => ?_), ?_, ?_, ?_⟩
  · rw [d g hg]; have := A.val g hg; omega
  · have r := W.rng h hm
    rw [d _ (by omega), d _ r.2]
    have := A.step h.1 h.2 (.inl hm)
    omega
  · rw [d 0 p]; omega
  · rw [d 0 p]; omega
  · rw [d 0 p]; omega
theorem base_down (F : FarOk n hs 0 told) (A : FarOk n hs f away) (W : WebOk n hs) (hf : f < n) {t : Int} (ht : 0 ≤ t ∧ t < 5) : Base n hs (away.map fun k => told.getD f 0 + 2 * (t - 2) - k) := by
  have al := A.len
  have p := W.pos
  have d : ∀ g, g < n → (away.map fun k => told.getD f 0 + 2 * (t - 2) - k).getD g 0 = told.getD f 0 + 2 * (t - 2) - away.getD g 0 := fun g hg => mapD (by omega)
  have small := W.small
  have tf := F.val f hf
  have a0 := A.val 0 p
  have pa := far_parity F A W hf
  have sy := far_sym F A W hf
  refine ⟨lay_of (by rw [List.length_map, al]) (fun g hg => ?_) (fun h hm => ?_), ?_, ?_, ?_⟩
  · rw [d g hg]; have := A.val g hg; omega
  · have r := W.rng h hm
    rw [d _ (by omega), d _ r.2]
    have := A.step h.1 h.2 (.inl hm)
    omega
  · rw [d 0 p]; omega
  · rw [d 0 p]; omega
  · rw [d 0 p]; omega
theorem base_mx (W : WebOk n hs) (A : Base n hs z) (B : Base n hs v) : Base n hs (mxL z v) := by
  have e := mx_at A.lay B.lay W.pos
  have := A.even; have := B.even; have := A.low; have := B.low; have := A.high; have := B.high
  exact ⟨lay_mx W A.lay B.lay (by omega), by omega, by omega, by omega⟩
theorem base_mn (W : WebOk n hs) (A : Base n hs z) (B : Base n hs v) : Base n hs (mnL z v) := by
  have e := mn_at A.lay B.lay W.pos
  have := A.even; have := B.even; have := A.low; have := B.low; have := A.high; have := B.high
  exact ⟨lay_mn W A.lay B.lay (by omega), by omega, by omega, by omega⟩
/-- after some deeds -/
structure Moved (n : Nat) (hs : List (Nat × Nat)) (b : List Int) (j : Nat) (z : List Int) : Prop where
  lay : Lay n hs z
  even : z.getD 0 0 % 2 = 0
  near : (z.getD 0 0 - b.getD 0 0).natAbs ≤ 2 * j
  nbr : ∀ u, Adj hs 0 u → (z.getD 0 0 - b.getD 0 0).natAbs + (z.getD u 0 - b.getD u 0).natAbs ≤ 2 * j
  low : ∀ f, f < n → (z.getD f 0 - b.getD f 0).natAbs ≤ 2 * j
theorem Base.moved (B : Base n hs b) : Moved n hs b 0 b := ⟨B.lay, B.even, by simp, fun u _ => by simp, fun f _ => by simp⟩
theorem Base.top (W : WebOk n hs) (B : Base n hs b) : ∀ f, f < n → -20 ≤ b.getD f 0 ∧ b.getD f 0 ≤ 20 := fun f hf => by
  have := lay_near W B.lay f hf
  have := B.low; have := B.high
  have := W.small
  omega
/-- one deed: up at a low one, down at a high one -/
def Deed (n : Nat) (hs : List (Nat × Nat)) (z v : List Int) : Prop := ∃ f, (f ∈ lows n hs z ∧ v = chg z f 2) ∨ (f ∈ highs n hs z ∧ v = chg z f (-2))
theorem Moved.deed (W : WebOk n hs) (B : Base n hs b) {j : Nat} (hj : j < 4) (M : Moved n hs b j z) (d : Deed n hs z v) : Moved n hs b (j + 1) v := by
  obtain ⟨f, d⟩ := d
  have hl := M.lay.len
  have p := W.pos
  have ex : ∃ c : Int, (c = 2 ∨ c = -2) ∧ v = chg z f c ∧ f < n ∧ ∀ h ∈ hs, ((chg z f c).getD h.1 0 - (chg z f c).getD h.2 0).natAbs = 1 := by
    rcases d with ⟨h, e⟩ | ⟨h, e⟩
    · exact ⟨2, .inl rfl, e, (mem_lows.mp h).1, chg_up W M.lay h⟩
    · exact ⟨-2, .inr rfl, e, (mem_highs.mp h).1, chg_down W M.lay h⟩
  obtain ⟨c, hc, rfl, hf, st⟩ := ex
  have at_ : ∀ g, g < n → (g = f ∧ (chg z f c).getD g 0 = z.getD g 0 + c) ∨ (g ≠ f ∧ (chg z f c).getD g 0 = z.getD g 0) := fun g hg => by
    by_cases e : f = g
    · subst e; exact .inl ⟨rfl, chg_same (by omega)⟩
    · exact .inr ⟨fun q => e q.symm, chg_other e⟩
  have top := B.top W
  have a0 := at_ 0 p
  have ev := M.even
  have ne := M.near
  refine ⟨lay_of (by rw [chg_len, hl]) (fun g hg => ?_) st, ?_, ?_, fun u hu => ?_, fun g hg => ?_⟩
  · have := top g hg; have := M.low g hg; have := at_ g hg; omega
  · omega
  · omega
  · have hun := (W.adj hu).2
    have := at_ u hun
    have := M.nbr u hu
    have := W.ne hu
    omega
  · have := M.low g hg; have := at_ g hg; omega
/-- what the law is to know of a drawn laying -/
structure Drawn (n : Nat) (hs : List (Nat × Nat)) (z : List Int) : Prop where
  lay : Lay n hs z
  even : z.getD 0 0 % 2 = 0
  spot : (n = 1 ∧ -12 ≤ z.getD 0 0 ∧ z.getD 0 0 ≤ 12) ∨ (n ≠ 1 ∧ -9 ≤ z.getD 0 0 ∧ z.getD 0 0 ≤ 19)
theorem Moved.drawn (W : WebOk n hs) (B : Base n hs b) {j : Nat} (hj : j ≤ 4) (M : Moved n hs b j z) : Drawn n hs z := by
  refine ⟨M.lay, M.even, ?_⟩
  have := M.near
  have := B.low; have := B.high
  have := W.small
  by_cases e : n = 1
  · subst e
    refine .inl ⟨rfl, ?_, ?_⟩ <;> omega
  · obtain ⟨u, hu⟩ := has_nbr W (by have := W.pos; omega)
    have := M.nbr u hu
    have := adj_step M.lay hu
    have := adj_step B.lay hu
    refine .inr ⟨e, ?_, ?_⟩ <;> omega
theorem Drawn.lowL (W : WebOk n hs) (D : Drawn n hs z) : Low n z := fun f hf => by
  have := lay_near W D.lay f hf
  have := D.spot
  omega
/-- two drawn ones: floor and roof -/
theorem drawn_rng (W : WebOk n hs) (A : Drawn n hs z) (B : Drawn n hs v) : Rng n hs (mnL z v) (mxL z v) ∧ Low n (mnL z v) ∧ Low n (mxL z v) := by
  have p : (v.getD 0 0 - z.getD 0 0) % 2 = 0 := by have := A.even; have := B.even; omega
  have X := lay_mn W A.lay B.lay p
  have Y := lay_mx W A.lay B.lay p
  have mn := fun f hf => mn_at (f := f) A.lay B.lay hf
  have mx := fun f hf => mx_at (f := f) A.lay B.lay hf
  have t : Two n hs (mnL z v) (mxL z v) := ⟨W, X, Y, by rw [mn 0 W.pos, mx 0 W.pos]; omega⟩
  have bd : Bnd n hs (mnL z v) (mxL z v) := ⟨t, (bnd_iff t).mpr fun f hf => by rw [mn f hf, mx f hf]; omega⟩
  refine ⟨⟨bd, few_of bd ?_⟩, fun f hf => ?_, fun f hf => ?_⟩
  · rw [mn 0 W.pos, mx 0 W.pos]
    have := A.spot; have := B.spot
    omega
  · have := A.lowL W f hf; have := B.lowL W f hf
    rw [mn f hf]; omega
  · have := A.lowL W f hf; have := B.lowL W f hf
    rw [mx f hf]; omega
theorem rng_floor {x y : List Int} (R : Rng n hs x y) : Rng n hs x x := by
  have X := R.1.1.2.1
  have t : Two n hs x x := ⟨R.1.1.1, X, X, by omega⟩
  refine ⟨⟨t, (bnd_iff t).mpr fun f _ => Int.le_refl _⟩, fun L nd h => R.2 L nd fun z hz => ?_⟩
  have Z := h z hz
  refine ⟨Z.lay, Z.par, fun f hf => ?_⟩
  have := Z.btw f hf
  have := (R.1.floor.btw f hf).2
  omega
theorem lows_ne (W : WebOk n hs) (Z : Lay n hs z) : lows n hs z ≠ [] := by
  obtain ⟨f, hf, _, hm⟩ := ex_max n (fun _ => true) (fun f => - z.getD f 0) ⟨0, W.pos, rfl⟩
  refine List.ne_nil_of_mem (mem_lows.mpr ⟨hf, fun g hg => ?_⟩)
  have := hm g (W.adj hg).2 rfl
  have := adj_step Z hg
  omega
end
end TW
/-! TWM7: the tally. -/
namespace TW
def gtI : List (Int × Int) → Int → Int
  | [], _ => 0
  | p :: r, k => if p.1 = k then p.2 else gtI r k
def ptI : List (Int × Int) → Int → List (Int × Int)
  | [], k => [(k, 1)]
  | p :: r, k => if p.1 = k then (p.1, p.2 + 1) :: r else p :: ptI r k
theorem ptI_keys : ∀ (its : List (Int × Int)) (k : Int), (ptI its k).map (·.1) = if k ∈ its.map (·.1) then its.map (·.1) else its.map (·.1) ++ [k]
  | [], k => by simp [ptI]
  | p :: r, k => by
    have ih := ptI_keys r k
    unfold ptI
    by_cases e : p.1 = k
    · rw [if_pos e, List.map_cons, List.map_cons, if_pos (by simp [e])]
    · rw [if_neg e, List.map_cons, List.map_cons, ih]
      by_cases m : k ∈ r.map (·.1)
      · rw [if_pos m, if_pos (List.mem_cons_of_mem _ m)]
      · rw [if_neg m, if_neg (by
          intro h
          rcases List.mem_cons.mp h with h | h
          · exact e h.symm
          · exact m h)]
        rfl
theorem ptI_sum : ∀ (its : List (Int × Int)) (k : Int), ((ptI its k).map (·.2)).sum = (its.map (·.2)).sum + 1
  | [], k => by simp [ptI]
  | p :: r, k => by
    have ih := ptI_sum r k
    unfold ptI
    by_cases e : p.1 = k
    · rw [if_pos e, List.map_cons, List.map_cons, List.sum_cons, List.sum_cons]; omega
    · rw [if_neg e, List.map_cons, List.map_cons, List.sum_cons, List.sum_cons, ih]; omega
theorem ptI_len : ∀ (its : List (Int × Int)) (k : Int), (ptI its k).length ≤ its.length + 1
  | [], k => by simp [ptI]
  | p :: r, k => by
    have ih := ptI_len r k
    unfold ptI
    by_cases e : p.1 = k
    · rw [if_pos e, List.length_cons, List.length_cons]; omega
    · rw [if_neg e, List.length_cons, List.length_cons]; omega
/-- worths met so far, counted -/
structure Tal (us : List Int) (its : List (Int × Int)) : Prop where
  nd : (its.map (·.1)).Nodup
  of : ∀ a b, (a, b) ∈ its → b = (us.count a : Int) ∧ a ∈ us
  has : ∀ a, a ∈ us → ∃ b, (a, b) ∈ its
  sum : (its.map (·.2)).sum = us.length
theorem tal_nil : Tal [] [] := ⟨by simp, by simp, by simp, rfl⟩
theorem gtI_in : ∀ {its : List (Int × Int)} {a b : Int}, (its.map (·.1)).Nodup → (a, b) ∈ its → gtI its a = b
  | p :: r, a, b, nd, h => by
    rw [List.map_cons, List.nodup_cons] at nd
    unfold gtI
    rcases List.mem_cons.mp h with e | h
    · rw [← e, if_pos rfl]
    · rw [if_neg (fun e => nd.1 (List.mem_map.mpr ⟨_, h, e.symm⟩))]
      exact gtI_in nd.2 h
theorem gtI_out : ∀ {its : List (Int × Int)} {a : Int}, a ∉ its.map (·.1) → gtI its a = 0
  | [], _, _ => rfl
  | p :: r, a, h => by
    unfold gtI
    rw [List.map_cons, List.mem_cons] at h
    rw [if_neg (fun e => h (.inl e.symm)), gtI_out fun m => h (.inr m)]
theorem mem_ptI : ∀ {its : List (Int × Int)} {k a b : Int}, (its.map (·.1)).Nodup → (a, b) ∈ ptI its k → (a ≠ k ∧ (a, b) ∈ its) ∨ (a = k ∧ b = gtI its k + 1)
  | [], k, a, b, _, h => by
    have : (a, b) = (k, 1) := by simpa [ptI] using h
    cases this
    exact .inr ⟨rfl, rfl⟩
  | p :: r, k, a, b, nd, h => by
    rw [List.map_cons, List.nodup_cons] at nd
    unfold ptI at h
    unfold gtI
    by_cases e : p.1 = k
    · rw [if_pos e] at h ⊢
      rcases List.mem_cons.mp h with h | h
      · cases h; exact .inr ⟨e, rfl⟩
      · refine .inl ⟨fun q => nd.1 (List.mem_map.mpr ⟨_, h, by rw [e]; exact q⟩), List.mem_cons_of_mem _ h⟩
    · rw [if_neg e] at h ⊢
      rcases List.mem_cons.mp h with h | h
      · rw [← h] at e ⊢; exact .inl ⟨e, List.mem_cons_self⟩
      · rcases mem_ptI nd.2 h with ⟨q, m⟩ | q
        · exact .inl ⟨q, List.mem_cons_of_mem _ m⟩
        · exact .inr q
theorem Tal.put {us : List Int} {its : List (Int × Int)} (T : Tal us its) (k : Int) : Tal (us ++ [k]) (ptI its k) := by
  have mk : k ∈ its.map (·.1) ↔ k ∈ us := ⟨fun h => by
    obtain ⟨⟨a, b⟩, hp, e⟩ := List.mem_map.mp h
    have e : a = k := e
    exact e ▸ (T.of a b hp).2, fun h => let ⟨b, hb⟩ := T.has k h; List.mem_map.mpr ⟨_, hb, rfl⟩⟩
  have gk : gtI its k = (us.count k : Int) := by
    by_cases h : k ∈ us
    · obtain ⟨b, hb⟩ := T.has k h
      rw [gtI_in T.nd hb]; exact (T.of k b hb).1
    · rw [gtI_out (fun q => h (mk.mp q)), List.count_eq_zero_of_not_mem h]; rfl
  refine ⟨?_, fun a b h => ?_, fun a h => ?_, by rw [ptI_sum, T.sum, List.length_append, List.length_singleton]; rfl⟩
  · rw [ptI_keys]
    split
    · exact T.nd
    · rename_i h
      rw [List.nodup_append]
      exact ⟨T.nd, by simp, fun x hx y hy e => by
        have : y = k := by simpa using hy
        exact h (this ▸ e ▸ hx)⟩
  · rcases mem_ptI T.nd h with ⟨q, m⟩ | ⟨rfl, e⟩
    · obtain ⟨e1, e2⟩ := T.of a b m
      refine ⟨by rw [List.count_append, List.count_singleton, if_neg (by simpa using Ne.symm q), e1]; rfl, List.mem_append_left _ e2⟩
    · refine ⟨by rw [e, gk, List.count_append, List.count_singleton, if_pos (by simp)]; rfl, List.mem_append_right _ (by simp)⟩
  · have : a ∈ (ptI its k).map (·.1) := by
      rw [ptI_keys]
      rcases List.mem_append.mp h with h | h
      · obtain ⟨b, hb⟩ := T.has a h
        have : a ∈ its.map (·.1) := List.mem_map.mpr ⟨_, hb, rfl⟩
        split
        · exact this
        · exact List.mem_append_left _ this
      · have e : a = k := by simpa using h
        subst e
        split
        · assumption
        · exact List.mem_append_right _ (by simp)
    obtain ⟨⟨x, y⟩, hp, e⟩ := List.mem_map.mp this
    have e : x = a := e
    exact ⟨y, e ▸ hp⟩
theorem Tal.len {us : List Int} {its : List (Int × Int)} (T : Tal us its) : its.length ≤ us.length := by
  have h : ∀ (us : List Int) (m : List Int), m.Nodup → (∀ a ∈ m, a ∈ us) → m.length ≤ us.length := fun us m nd h => nodup_sub_len nd h
  have := h us (its.map (·.1)) T.nd fun a ha => by
    obtain ⟨⟨x, y⟩, hp, e⟩ := List.mem_map.mp ha
    have e : x = a := e
    exact e ▸ (T.of x y hp).2
  rwa [List.length_map] at this
theorem perm_sum {l m : List Int} (p : l.Perm m) : l.sum = m.sum := by
  induction p with
  | nil => rfl
  | cons x _ ih => rw [List.sum_cons, List.sum_cons, ih]
  | swap x y l => rw [List.sum_cons, List.sum_cons, List.sum_cons, List.sum_cons]; omega
  | trans _ _ h1 h2 => rw [h1, h2]
theorem count_filter (L : List (List Int)) (w : List Int) (a : Int) : (L.map fun z => wo z w).count a = (L.filter fun z => decide (wo z w = a)).length := by
  induction L with
  | nil => rfl
  | cons z L ih =>
    rw [List.map_cons, List.count_cons, ih]
    by_cases e : wo z w = a
    · rw [if_pos (by simp [e]), List.filter_cons_of_pos (by simp [e]), List.length_cons]
    · rw [if_neg (by simpa using e), List.filter_cons_of_neg (by simp [e])]; rfl
theorem Tal.tally {L : List (List Int)} {w : List Int} {its ms : List (Int × Int)} (T : Tal (L.map fun z => wo z w) its) (p : ms.Perm its) (s : ms.Pairwise fun a b => a.1 < b.1 ∨ (a.1 = b.1 ∧ a.2 ≤ b.2)) : Tally L w ms := by
  refine ⟨?_, fun z hz => ?_, fun a b h => ?_, ?_⟩
  · have nd : (ms.map (·.1)).Nodup := (p.map (·.1)).nodup_iff.mpr T.nd
    refine (List.pairwise_and_iff.mpr ⟨s, List.pairwise_map.mp nd⟩).imp ?_
    rintro a b ⟨h1, h2⟩
    rcases h1 with h | ⟨h, _⟩
    · exact h
    · exact absurd h h2
  · obtain ⟨b, hb⟩ := T.has _ (List.mem_map.mpr ⟨z, hz, rfl⟩)
    exact ⟨b, p.mem_iff.mpr hb⟩
  · obtain ⟨e, m⟩ := T.of a b (p.mem_iff.mp h)
    obtain ⟨z, hz, ez⟩ := List.mem_map.mp m
    exact ⟨⟨z, hz, ez⟩, by rw [e, count_filter]⟩
  · have := T.sum
    rw [List.length_map] at this
    rw [← this]
    exact perm_sum (p.map (·.2))
end TW
/-! TWZ2: zip made of any number of tuples; the walk over it. -/
namespace TW
open PySem PySem.Spec PyProof.Rows L2
theorem typeCall_zip (as : List Value) : checkTypeCall "zip" ⟨as, []⟩ = pure () := by kernel_rfl
theorem newCall_zip : ∀ (as : List Value), checkBuiltinCall "zip.__new__" ⟨.type "zip" :: as, []⟩ = pure ()
  | [] => by kernel_rfl
  | a :: as => by kernel_rfl
theorem args_oi (obj : Value) (as : List Value) : argsOk "object.__init__" ⟨obj :: as, []⟩ := by
  unfold argsOk; rw [signature?_of (id := "object.__init__") (n := ['_', '_', 't', 'i', 'n', 'i', '_', '_']) (o := ['t', 'c', 'e', 'j', 'b', 'o']) (by kernel_rfl) PySem.F.owner_object]; kernel_rfl
theorem newClass_zip (as : List Value) : Builtin.SmallTypes.newClass "zip" ⟨.type "zip" :: as, []⟩ = pure (.type "zip", as) := by
  unfold Builtin.SmallTypes.newClass
  show (isType (.type "zip") >>= _) = _
  have e : isType (.type "zip") = pure true := by first | rfl | kernel_rfl | (unfold isType; rw [isSubtype_type]; kernel_rfl)
  rw [e]
  show (isSubtype (.type "zip") (.type "zip") >>= _) = _
  rw [sub_zip]
  rfl
def itsAt (a : Addr) (n : Nat) : List Addr := (List.range n).map (a + ·)
theorem itsAt_len (a n : Nat) : (itsAt a n).length = n := by simp [itsAt]
theorem itsAt_succ (a n : Nat) : itsAt a (n + 1) = itsAt a n ++ [a + n] := by simp [itsAt, List.range_succ]
theorem itsAt_get {a n j : Nat} {it : Addr} (h : (itsAt a n)[j]? = some it) : j < n ∧ it = a + j := by
  unfold itsAt at h
  rw [List.getElem?_map] at h
  by_cases q : j < n
  · rw [List.getElem?_range q] at h
    exact ⟨q, (Option.some.inj h).symm⟩
  · rw [List.getElem?_eq_none (by simp; omega)] at h; cases h
section
variable {prog : Program} {w : World} {A : Around} {E : Value → Shared → Prop} {s : Shared} {ks : List Bool}
theorem pyIter_S {b : Bool} {l : Addr} {t : Array Value} {Q : Value → Shared → Prop} (hl : SSq b s.heap l t)
    (h : ∀ ob : Obj, SIt b (s.heap.push ob) s.heap.objs.size l 0 → Q (.ref s.heap.objs.size) { s with heap := s.heap.push ob }) : wpAny (model prog w) A (pyIter (.ref l)) Q E s := by
  cases b with
  | true => exact wpAny_pyIter_list hl (h _ ⟨_, Heap.get?_push_size _ rfl, rfl, rfl⟩)
  | false => exact wpAny_pyIter_tuple hl (h _ ⟨_, Heap.get?_push_size _ rfl, rfl, rfl⟩)
theorem iterAll_tuples {ls : List Addr} {tps : List (Array Value)} {Q : List Value → Shared → Prop} (hT : Tps ks s.heap ls tps) (hlen : tps.length = ls.length)
    (hQ : ∀ h', Its ks h' (itsAt s.heap.objs.size ls.length) ls 0 0 → h'.objs.size = s.heap.objs.size + ls.length → (∀ c o, s.heap.get? c = some o → h'.get? c = some o) → Q ((itsAt s.heap.objs.size ls.length).map Value.ref) { s with heap := h' }) :
    wpAny (model prog w) A (Builtin.SmallTypes.iterAll (ls.map Value.ref)) Q E s := by
  unfold Builtin.SmallTypes.iterAll
  refine wpAny_bind ?_
  refine wpAny_forIn_list (M := model prog w) (A := A) (E := E) _ (fun rest acc st => ∃ (k : Nat) (h : Heap), st = { s with heap := h } ∧ k ≤ ls.length ∧ rest = (ls.drop k).map Value.ref ∧ acc.toList = (itsAt s.heap.objs.size k).map Value.ref ∧ Its ks h (itsAt s.heap.objs.size k) ls 0 0 ∧ h.objs.size = s.heap.objs.size + k ∧ (∀ c o, s.heap.get? c = some o → h.get? c = some o)) _ ?_ ?_ _ _ ?_
  · rintro x rest acc st ⟨k, h, rfl, hk, hr, hacc, hI, hsz, hkeep⟩
    have hkl : k < ls.length := by
      rcases Nat.lt_or_ge k ls.length with q | q
      · exact q
      · rw [List.drop_of_length_le q] at hr; cases hr
    rw [List.drop_eq_getElem_cons hkl, List.map_cons] at hr
    cases hr
    have hl : ls[k]? = some ls[k] := List.getElem?_eq_getElem hkl
    have ht : tps[k]? = some (tps[k]'(by omega)) := List.getElem?_eq_getElem (by omega)
    have htu := (hT k _ _ hl ht).at' (fun o e => hkeep _ o e)
    refine wpAny_bind (wpAny_holding (pyIter_S (s := { s with heap := h }) htu fun ob hit => ?_))
    refine wpAny_pure ⟨k + 1, _, rfl, hkl, rfl, ?_, ?_, ?_, fun c o e => Heap.get?_push_of_some _ (hkeep c o e)⟩
    · rw [Array.toList_push, hacc, itsAt_succ, List.map_append, ← hsz]; rfl
    · intro j it l e1 e2
      rw [itsAt_succ] at e1
      by_cases q : j < k
      · rw [List.getElem?_append_left (by rw [itsAt_len]; exact q)] at e1
        have := hI j it l e1 e2
        rw [if_neg (Nat.not_lt_zero _)] at this ⊢
        exact this.at fun o e => Heap.get?_push_of_some _ e
      · rw [List.getElem?_append_right (by rw [itsAt_len]; omega), itsAt_len] at e1
        have ej : j = k := by
          have := (List.getElem?_eq_some_iff.mp e1).1
          simp at this; omega
        subst ej
        rw [hl] at e2
        cases e2
        simp at e1
        subst e1
        rw [if_neg (Nat.not_lt_zero _), ← hsz]
        exact hit
    · rw [Heap.size_push, hsz]; omega
  · rintro acc st ⟨k, h, rfl, hk, hr, hacc, hI, hsz, hkeep⟩
    have hkl : k = ls.length := by
      rcases Nat.lt_or_ge k ls.length with q | q
      · rw [List.drop_eq_getElem_cons q] at hr; cases hr
      · omega
    subst hkl
    show wpAny _ _ (pure acc.toList) _ _ _
    rw [hacc]
    exact wpAny_pure (hQ h hI hsz hkeep)
  · exact ⟨0, s.heap, rfl, Nat.zero_le _, rfl, rfl, fun j it l e1 e2 => by simp [itsAt] at e1, by omega, fun c o e => e⟩
theorem zipN_new (ls : List Addr) (tps : List (Array Value)) (hlen : tps.length = ls.length) (hsz : ls.length ≤ sizeLine) :
    Meets (Builtin.«zip.__new__» ⟨.type "zip" :: ls.map Value.ref, []⟩) (fun _ R s => Tps ks s.heap ls tps ∧ ∀ h', IsZ h' (s.heap.objs.size + ls.length + 2) (s.heap.objs.size + ls.length) (s.heap.objs.size + ls.length + 1) .none false → IsT h' (s.heap.objs.size + ls.length) ((itsAt s.heap.objs.size ls.length).map Value.ref) → IsT h' (s.heap.objs.size + ls.length + 1) (List.replicate ls.length .none) → Its ks h' (itsAt s.heap.objs.size ls.length) ls 0 0 → (∀ c o, s.heap.get? c = some o → h'.get? c = some o) → R (.ok (.ret (.ref (s.heap.objs.size + ls.length + 2)))) { s with heap := h' }) :=
  .of_wp fun prog w A R s h => by
    obtain ⟨hT, hQ⟩ := h
    unfold Builtin.«zip.__new__»
    rw [newClass_zip]
    refine wpAny_bind (wpAny_pure ?_)
    show wpAny _ _ (Builtin.SmallTypes.iterAll (ls.map Value.ref) >>= _) _ _ _
    refine wpAny_bind (iterAll_tuples hT hlen fun h' hI hs' hk => ?_)
    refine wpAny_bind (wpAny_newTuple ?_ (by simp [itsAt_len]; exact hsz))
    refine wpAny_bind (wpAny_newTuple ?_ (by simp [itsAt_len]; exact hsz))
    refine wpAny_bind (wpAny_newObj_type (T := "zip") (dict := none) (data := .fields #[.none, .bool false, .bool false, .ref _, .ref _]) ?_ (by show 5 ≤ sizeLine + 2; decide))
    refine wpAny_pure ⟨_, rfl, ?_⟩
    have z1 : (h'.push { cls := .type "tuple", data := .seq ((itsAt s.heap.objs.size ls.length).map Value.ref).toArray }).objs.size = s.heap.objs.size + ls.length + 1 := by rw [Heap.size_push, hs']
    have z2 : ((h'.push { cls := .type "tuple", data := .seq ((itsAt s.heap.objs.size ls.length).map Value.ref).toArray }).push { cls := .type "tuple", data := .seq (((itsAt s.heap.objs.size ls.length).map Value.ref).map fun _ => Value.none).toArray }).objs.size = s.heap.objs.size + ls.length + 2 := by rw [Heap.size_push, z1]
    show R (.ok (.ret (.ref ((h'.push { cls := .type "tuple", data := .seq ((itsAt s.heap.objs.size ls.length).map Value.ref).toArray }).push { cls := .type "tuple", data := .seq (((itsAt s.heap.objs.size ls.length).map Value.ref).map fun _ => Value.none).toArray }).objs.size))) { s with heap := ((h'.push { cls := .type "tuple", data := .seq ((itsAt s.heap.objs.size ls.length).map Value.ref).toArray }).push { cls := .type "tuple", data := .seq (((itsAt s.heap.objs.size ls.length).map Value.ref).map fun _ => Value.none).toArray }).push { cls := .type "zip", dict := none, data := .fields #[.none, .bool false, .bool false, .ref h'.objs.size, .ref (h'.push { cls := .type "tuple", data := .seq ((itsAt s.heap.objs.size ls.length).map Value.ref).toArray }).objs.size] } }
    rw [z2, z1, hs']
    have eN : ((itsAt s.heap.objs.size ls.length).map Value.ref).map (fun _ => Value.none) = List.replicate ls.length .none := by rw [List.map_map]; show List.map (fun _ => Value.none) _ = _; rw [List.map_const', itsAt_len]
    refine hQ _ ?_ ?_ ?_ ?_ ?_
    · have g := Heap.get?_push_size (((h'.push { cls := .type "tuple", data := .seq ((itsAt s.heap.objs.size ls.length).map Value.ref).toArray }).push { cls := .type "tuple", data := .seq (((itsAt s.heap.objs.size ls.length).map Value.ref).map fun _ => Value.none).toArray })) (o := { cls := .type "zip", dict := none, data := .fields #[.none, .bool false, .bool false, .ref h'.objs.size, .ref (h'.push { cls := .type "tuple", data := .seq ((itsAt s.heap.objs.size ls.length).map Value.ref).toArray }).objs.size] }) rfl
      rw [z2, z1, hs'] at g
      exact g
    · have g := Heap.get?_push_size h' (o := { cls := .type "tuple", data := .seq ((itsAt s.heap.objs.size ls.length).map Value.ref).toArray }) rfl
      rw [hs'] at g
      exact Heap.get?_push_of_some _ (Heap.get?_push_of_some _ g)
    · have g := Heap.get?_push_size (h'.push { cls := .type "tuple", data := .seq ((itsAt s.heap.objs.size ls.length).map Value.ref).toArray }) (o := { cls := .type "tuple", data := .seq (((itsAt s.heap.objs.size ls.length).map Value.ref).map fun _ => Value.none).toArray }) rfl
      rw [z1, eN] at g
      rw [eN]
      exact Heap.get?_push_of_some _ g
    · exact hI.keep fun it _ o e => Heap.get?_push_of_some _ (Heap.get?_push_of_some _ (Heap.get?_push_of_some _ e))
    · exact fun c o e => Heap.get?_push_of_some _ (Heap.get?_push_of_some _ (Heap.get?_push_of_some _ (hk c o e)))
theorem call_zipN {ls : List Addr} {tps : List (Array Value)} {Q : Value → Shared → Prop} (hlen : tps.length = ls.length) (hsz : ls.length ≤ sizeLine) (hT : Tps ks s.heap ls tps)
    (h : ∀ h', IsZ h' (s.heap.objs.size + ls.length + 2) (s.heap.objs.size + ls.length) (s.heap.objs.size + ls.length + 1) .none false → IsT h' (s.heap.objs.size + ls.length) ((itsAt s.heap.objs.size ls.length).map Value.ref) → IsT h' (s.heap.objs.size + ls.length + 1) (List.replicate ls.length .none) →
      Its ks h' (itsAt s.heap.objs.size ls.length) ls 0 0 → (∀ c o, s.heap.get? c = some o → h'.get? c = some o) → Q (.ref (s.heap.objs.size + ls.length + 2)) { s with heap := h' }) :
    wpAny (model prog w) A (call (.type "zip") (ls.map Value.ref)) Q E s := by
  refine callType_new F.called_zip (by decide) (typeCall_zip _) (newCall_zip _) (fun obj => args_oi obj _) F.entry_zip_new (zipN_new ls tps hlen hsz) ⟨hT, fun h' a b c d e => ?_⟩
  exact ⟨⟨_, a, rfl⟩, h h' a b c d e⟩
/-! ### the walk -/
/-- the rows at as, column by column -/
structure Cols (K : PySem.W.Frag) (H : Hp) (as : List Addr) (m : Nat) (col : Nat → List V) : Prop where
  len : ∀ i, i < m → (col i).length = as.length
  row : ∀ (j : Nat) (a : Addr), as[j]? = some a → ∃ row, H a = some (.tup row) ∧ row.length = m ∧ ∀ i, i < m → row[i]? = (col i)[j]?
theorem Cols.mono {K : PySem.W.Frag} {H H' : Hp} {as : List Addr} {m : Nat} {col : Nat → List V} (c : Cols K H as m col) (s : Same H H') : Cols K H' as m col := ⟨c.len, fun j a h => let ⟨r, h1, h2⟩ := c.row j a h; ⟨r, s _ _ h1, h2⟩⟩
def ItN (K : PySem.W.Frag) (as : List Addr) : It :=
  ⟨fun i H => ∃ m col, Cols K H as m col ∧ i < m,
   fun i H v H' => ∃ T xs, v = .ref T ∧ H T = none ∧ H' = upd H T (.tup xs) ∧ ∀ m col, Cols K H as m col → i < m → xs = col i,
   fun i H => ∃ m col, Cols K H as m col ∧ m ≤ i⟩
/-- what stands of the rows in the heap -/
theorem cols_tps {X : Cx} {pins : List (Addr × Obj)} {σ : L2.St} {H : Hp} {as : List Addr} {m : Nat} {col : Nat → List V} (I : Inv X pins σ H s) (c : Cols X.K H as m col) :
    ∃ tps : List (Array Value), tps.length = as.length ∧ Tps [] s.heap as tps ∧ ∀ (j : Nat) (t : Array Value), tps[j]? = some t → t.size = m ∧ ∀ i, i < m → ∃ v u, (col i)[j]? = some v ∧ RelV v u ∧ t[i]? = some u := by
  have each : ∀ (bs : List Addr) (k : Nat), (∀ j, bs[j]? = as[k + j]?) → ∃ tps : List (Array Value), tps.length = bs.length ∧ Tps [] s.heap bs tps ∧ ∀ (j : Nat) (t : Array Value), tps[j]? = some t → t.size = m ∧ ∀ i, i < m → ∃ v u, (col i)[k + j]? = some v ∧ RelV v u ∧ t[i]? = some u := by
    intro bs
    induction bs with
    | nil => exact fun k _ => ⟨[], rfl, fun j l t e => by simp at e, fun j t e => by simp at e⟩
    | cons b bs ih =>
      intro k hk
      obtain ⟨tps, h1, h2, h3⟩ := ih (k + 1) fun j => by
        have := hk (j + 1)
        rw [List.getElem?_cons_succ] at this
        rw [this]; congr 1; omega
      have hb : as[k]? = some b := by have := hk 0; simpa using this.symm
      obtain ⟨row, hr, hl, hc⟩ := c.row k b hb
      obtain ⟨its, rv, p, _⟩ := I.tuple (.inl (.inl hr))
      refine ⟨its.toArray :: tps, by simp [h1], fun j l t e1 e2 => ?_, fun j t e => ?_⟩
      · cases j with
        | zero =>
          have : b = l := by simpa using e1
          have : its.toArray = t := by simpa using e2
          subst_vars
          exact p
        | succ j => exact h2 j l t (by simpa using e1) (by simpa using e2)
      · cases j with
        | zero =>
          have : its.toArray = t := by simpa using e
          subst this
          refine ⟨by rw [List.size_toArray, ← rv.length, hl], fun i hi => ?_⟩
          have hv : row[i]? = some (row[i]'(by omega)) := List.getElem?_eq_getElem (by omega)
          obtain ⟨u, hu, ru⟩ := rv.get hv
          exact ⟨_, u, by rw [Nat.add_zero, ← hc i hi]; exact hv, ru, by simpa using hu⟩
        | succ j =>
          obtain ⟨a1, a2⟩ := h3 j t (by simpa using e)
          refine ⟨a1, fun i hi => ?_⟩
          have := a2 i hi
          rwa [show k + 1 + j = k + (j + 1) by omega] at this
  obtain ⟨tps, h1, h2, h3⟩ := each as 0 fun j => by rw [Nat.zero_add]
  refine ⟨tps, h1, h2, fun j t e => ?_⟩
  obtain ⟨a, b⟩ := h3 j t e
  refine ⟨a, fun i hi => ?_⟩
  have := b i hi
  rwa [Nat.zero_add] at this
/-- one column's values -/
theorem col_vals {m i : Nat} {col : Nat → List V} {as : List Addr} {tps : List (Array Value)} (hl : (col i).length = as.length) (ht : tps.length = as.length) (hi : i < m) (h : ∀ (j : Nat) (t : Array Value), tps[j]? = some t → t.size = m ∧ ∀ i, i < m → ∃ v u, (col i)[j]? = some v ∧ RelV v u ∧ t[i]? = some u) :
    ∃ us : List Value, us.length = as.length ∧ Vals (col i) us ∧ ∀ (j : Nat) (t : Array Value) (x : Value), tps[j]? = some t → us[j]? = some x → t[i]? = some x := by
  have gen : ∀ (vs : List V) (ts : List (Array Value)), vs.length = ts.length → (∀ (j : Nat) (t : Array Value), ts[j]? = some t → ∃ v u, vs[j]? = some v ∧ RelV v u ∧ t[i]? = some u) → ∃ us : List Value, us.length = vs.length ∧ Vals vs us ∧ ∀ (j : Nat) (t : Array Value) (x : Value), ts[j]? = some t → us[j]? = some x → t[i]? = some x := by
    intro vs
    induction vs with
    | nil => exact fun ts _ _ => ⟨[], rfl, .nil, fun j t x _ e => by simp at e⟩
    | cons v vs ih =>
      intro ts hl h
      cases ts with
      | nil => simp at hl
      | cons t ts =>
        obtain ⟨us, h1, h2, h3⟩ := ih ts (by simpa using hl) fun j t' e => by
          obtain ⟨v', u, a, b, c⟩ := h (j + 1) t' (by simpa using e)
          exact ⟨v', u, by simpa using a, b, c⟩
        obtain ⟨v', u, a, b, c⟩ := h 0 t rfl
        have : v = v' := by simpa using a
        subst this
        refine ⟨u :: us, by simp [h1], .cons b h2, fun j t' x e1 e2 => ?_⟩
        cases j with
        | zero =>
          have : t = t' := by simpa using e1
          have : u = x := by simpa using e2
          subst_vars; exact c
        | succ j => exact h3 j t' x (by simpa using e1) (by simpa using e2)
  obtain ⟨us, h1, h2, h3⟩ := gen (col i) tps (by omega) fun j t e => (h j t e).2 i hi
  exact ⟨us, by omega, h2, h3⟩
end
def tnN (z TI TO : Addr) (its ls : List Addr) (free : Bool) (i : Nat) (h : Heap) : Prop :=
  ∃ (f0 : Value) (b0 : Bool) (old : List Value), IsZ h z TI TO f0 b0 ∧ (f0 = .none ∨ (free = false ∧ ∃ T : Nat, f0 = rawInt T)) ∧ IsT h TI (its.map Value.ref) ∧ IsT h TO old ∧ old.length = its.length ∧ Its [] h its ls i 0
/-- the iterator is apart from what it walks -/
structure ApN (z TI TO : Addr) (its ls : List Addr) : Prop where
  ne : its ≠ []
  nd : (z :: TI :: TO :: its).Nodup
  ll : ls.length = its.length
  lc : ∀ l ∈ ls, l ∉ z :: TO :: its
  sz : its.length ≤ sizeLine
/-- the target takes what is handed out, or lets it go -/
def TgtOk (tg : Expr) (free : Bool) : Prop := (free = false ∧ ∃ x p, tg = .Name x p) ∨ (free = true ∧ ∃ elts k p, tg = .Tuple elts k p)
theorem turn_zipN {P : Program} {w : World} {K : PySem.W.Frag} {tg : Expr} {free : Bool} {ls its : List Addr} {z TI TO : Addr} (hg : TgtOk tg free) (D : ApN z TI TO its ls) :
    Turn P w K tg (ItN K ls) (z :: TI :: TO :: its) z (tnN z TI TO its ls free) where
  mem := by simp
  obj := fun i h st c hc => by
    obtain ⟨f0, b0, old, hz, hf0, hTI, hTO, hol, hI⟩ := st
    rcases List.mem_cons.mp hc with q | hc
    · rw [q]; exact ⟨_, hz, fun v q => nomatch q⟩
    · rcases List.mem_cons.mp hc with q | hc
      · rw [q]; exact ⟨_, hTI, fun v q => nomatch q⟩
      · rcases List.mem_cons.mp hc with q | hc
        · rw [q]; exact ⟨_, hTO, fun v q => nomatch q⟩
        · obtain ⟨j, hj, e⟩ := List.getElem_of_mem hc
          have e1 : its[j]? = some c := by rw [List.getElem?_eq_getElem hj, e]
          have e2 : ls[j]? = some (ls[j]'(by rw [D.ll]; exact hj)) := List.getElem?_eq_getElem _
          exact (hI j _ _ e1 e2).obj
  keep := fun i h h' st k => by
    obtain ⟨f0, b0, old, hz, hf0, hTI, hTO, hol, hI⟩ := st
    exact ⟨f0, b0, old, k z (by simp) _ hz, hf0, k TI (by simp) _ hTI, k TO (by simp) _ hTO, hol, hI.keep fun it hm o e => k it (by simp [hm]) o e⟩
  item := by
    intro X hP hw hK hc i pins s σ H E I hf st hgo
    subst hP hw hK
    obtain ⟨f0, b0, old, hz, hf0, hTI, hTO, hol, hI⟩ := st
    obtain ⟨m, col, hC, him⟩ := hgo
    obtain ⟨tps, t1, t2, t3⟩ := cols_tps I hC
    obtain ⟨us, u1, u2, u3⟩ := col_vals (hC.len i him) t1 him t3
    have hn : H s.heap.objs.size = none := I.hok.fresh (Nat.le_refl _)
    have fplt : ∀ c ∈ z :: TI :: TO :: its, c < s.heap.objs.size := fun c hcm => by
      rcases List.mem_cons.mp hcm with q | hcm
      · rw [q]; exact Heap.lt_size hz
      · rcases List.mem_cons.mp hcm with q | hcm
        · rw [q]; exact Heap.lt_size hTI
        · rcases List.mem_cons.mp hcm with q | hcm
          · rw [q]; exact Heap.lt_size hTO
          · obtain ⟨j, hj, e⟩ := List.getElem_of_mem hcm
            have e1 : its[j]? = some c := by rw [List.getElem?_eq_getElem hj, e]
            have e2 : ls[j]? = some (ls[j]'(by rw [D.ll]; exact hj)) := List.getElem?_eq_getElem _
            obtain ⟨o, ho, _⟩ := (hI j _ _ e1 e2).obj
            exact Heap.lt_size ho
    have sub : ∀ c ∈ z :: TO :: its, c ∈ z :: TI :: TO :: its := fun c hcm => by
      rcases List.mem_cons.mp hcm with q | hcm
      · simp [q]
      · exact List.mem_cons_of_mem _ (List.mem_cons_of_mem _ hcm)
    have zTO : z ≠ TO := fun e => (List.nodup_cons.mp D.nd).1 (by simp [e])
    have zTI : z ≠ TI := fun e => (List.nodup_cons.mp D.nd).1 (by simp [e])
    have TITO : TI ≠ TO := fun e => (List.nodup_cons.mp (List.nodup_cons.mp D.nd).2).1 (by simp [e])
    have TIits : TI ∉ its := fun e => (List.nodup_cons.mp (List.nodup_cons.mp D.nd).2).1 (by simp [e])
    have zits : z ∉ its := fun e => (List.nodup_cons.mp D.nd).1 (by simp [e])
    have ful : us.length = its.length := by rw [u1, D.ll]
    -- the end of a turn
    have fin : ∀ (h' : Heap) (f1 : Value) (b1 : Bool) (ol : List Value), IsZ h' z TI TO f1 b1 → (f1 = .none ∨ (free = false ∧ ∃ T : Nat, f1 = rawInt T)) → IsT h' TI (its.map Value.ref) → IsT h' TO ol → ol.length = its.length → Its [] h' its ls (i + 1) 0 → IsT h' s.heap.objs.size us → Old (z :: TO :: its) s.heap h' →
        ∃ x H', Inv X pins σ H' { s with heap := h' } ∧ RelV x (.ref s.heap.objs.size) ∧ (ItN X.K ls).yld i H x H' ∧ tnN z TI TO its ls free (i + 1) h' ∧ ∀ b ∈ z :: TI :: TO :: its, H' b = none := by
      intro h' f1 b1 ol a1 a2 a3 a4 a5 a6 a7 a8
      have new : ObjOk X.prog X.w (upd H s.heap.objs.size (.tup (col i))) h' s.heap.objs.size (.tup (col i)) := ⟨by rw [hC.len i him, D.ll]; exact D.sz, us, u2, ⟨_, a7, rfl, _, rfl⟩⟩
      have I1 : Inv X pins σ (upd H s.heap.objs.size (.tup (col i))) { s with heap := h' } := I.turnedNew (t' := s.toks) (ch := z :: TI :: TO :: its) (fun c o hb q => a8 c o (fun q' => hb (sub c q')) q) hf (Nat.le_refl _) new
      refine ⟨.ref s.heap.objs.size, _, I1, rfl, ⟨_, col i, rfl, hn, rfl, fun m' col' hC' hi' => ?_⟩, ⟨f1, b1, ol, a1, a2, a3, a4, a5, a6⟩, fun c hcm => ?_⟩
      · apply List.ext_getElem?
        intro j
        by_cases hj : j < ls.length
        · have e : ls[j]? = some ls[j] := List.getElem?_eq_getElem hj
          obtain ⟨r1, q1, l1, k1⟩ := hC.row j _ e
          obtain ⟨r2, q2, l2, k2⟩ := hC'.row j _ e
          rw [q1] at q2
          cases q2
          rw [← k1 i him, ← k2 i hi']
        · rw [List.getElem?_eq_none (by rw [hC.len i him]; omega), List.getElem?_eq_none (by rw [hC'.len i hi']; omega)]
      · rw [upd_ne (Nat.ne_of_lt (fplt c hcm))]; exact (hf c hcm).1
    -- handed out anew
    have fresh : ∀ h', IsZ h' z TI TO (rawInt s.heap.objs.size) false → IsT h' TO us → Its [] h' its ls (i + 1) 0 → IsT h' s.heap.objs.size us → Old (z :: TO :: its) s.heap h' →
        wpAny (model X.prog X.w) X.A (letOwnedTupleGo tg (.ref z) (.ref s.heap.objs.size)) (fun _ s2 => ∃ x H', Inv X pins σ H' s2 ∧ RelV x (.ref s.heap.objs.size) ∧ (ItN X.K ls).yld i H x H' ∧ tnN z TI TO its ls free (i + 1) s2.heap ∧ ∀ b ∈ z :: TI :: TO :: its, H' b = none) E { s with heap := h' } := by
      intro h' c1 c2 c3 c4 c5
      have cTI : IsT h' TI (its.map Value.ref) := c5 TI _ (fun q => by
        rcases List.mem_cons.mp q with q | q
        · exact zTI q.symm
        · rcases List.mem_cons.mp q with q | q
          · exact TITO q
          · exact TIits q) hTI
      rcases hg with ⟨hfr, x, p, rfl⟩ | ⟨hfr, elts, k, p, rfl⟩
      · unfold letOwnedTupleGo
        exact wpAny_pure (fin h' _ _ us c1 (.inr ⟨hfr, _, rfl⟩) cTI c2 ful c3 c4 c5)
      · refine wpAny_letOwnedTupleGo_zip (s := { s with heap := h' }) c1 fun h'' z'' sb => ?_
        have zs : z ≠ s.heap.objs.size := Nat.ne_of_lt (Heap.lt_size hz)
        refine fin h'' _ _ us z'' (.inl rfl) ((sb.2 _ (Ne.symm zTI)).trans cTI) ((sb.2 _ (Ne.symm zTO)).trans c2) ful (c3.keep fun it hm o e => (sb.2 it (fun q => zits (q ▸ hm))).trans e) ((sb.2 _ (Ne.symm zs)).trans c4) (c5.trans (Old.of (by simp) sb))
    rcases hf0 with rfl | ⟨hfr, T, rfl⟩
    · refine pyNext_zip hz (zipN_free (fun Q q => free_none hz q) D.ne D.nd D.ll (by rw [t1, D.ll]) D.lc hz hTI hTO hol hI t2 ful u3 D.sz fun h' c1 c2 c3 c4 c5 => ?_)
      exact ⟨_, rfl, fresh h' c1 c2 c3 c4 c5⟩
    · cases hT : s.heap.get? T with
      | none =>
        refine pyNext_zip hz (zipN_free (fun Q q => free_dead hz hT q) D.ne D.nd D.ll (by rw [t1, D.ll]) D.lc hz hTI hTO hol hI t2 ful u3 D.sz fun h' c1 c2 c3 c4 c5 => ?_)
        exact ⟨_, rfl, fresh h' c1 c2 c3 c4 c5⟩
      | some oT =>
        refine pyNext_zip hz (zipN_held D.ne D.nd D.ll (by rw [t1, D.ll]) D.lc hz hT hTI hTO hI t2 ful u3 D.sz fun h' c1 c3 c4 c5 c2 => ?_)
        refine ⟨_, rfl, ?_⟩
        have cTI : IsT h' TI (its.map Value.ref) := c5 TI _ (fun q => by
          rcases List.mem_cons.mp q with q | q
          · exact zTI q.symm
          · rcases List.mem_cons.mp q with q | q
            · exact TITO q
            · exact TIits q) hTI
        rcases hg with ⟨hfr2, x, p, rfl⟩ | ⟨hfr2, elts, k, p, rfl⟩
        · unfold letOwnedTupleGo
          exact wpAny_pure (fin h' _ _ old c1 (.inr ⟨hfr, _, rfl⟩) cTI c2 hol c3 c4 c5)
        · rw [hfr] at hfr2; cases hfr2
  done := by
    intro X hP hw hK hc i pins s σ H E I hf st hgo
    subst hP hw hK
    obtain ⟨f0, b0, old, hz, hf0, hTI, hTO, hol, hI⟩ := st
    obtain ⟨m, col, hC, him⟩ := hgo
    obtain ⟨tps, t1, t2, t3⟩ := cols_tps I hC
    have sub : ∀ c ∈ z :: TO :: its, c ∈ z :: TI :: TO :: its := fun c hcm => by
      rcases List.mem_cons.mp hcm with q | hcm
      · simp [q]
      · exact List.mem_cons_of_mem _ (List.mem_cons_of_mem _ hcm)
    have ex : ∃ i1 r l1 t, its = i1 :: r ∧ SIt false s.heap i1 l1 i ∧ SSq false s.heap l1 t ∧ l1 ∉ z :: TO :: its ∧ t[i]? = none := by
      have hne := D.ne
      have hll := D.ll
      cases its with
      | nil => exact absurd rfl hne
      | cons i1 r =>
        cases ls with
        | nil => simp at hll
        | cons l1 lr =>
          cases tps with
          | nil => simp at t1
          | cons t tr =>
            have h1 := hI 0 i1 l1 rfl rfl
            rw [if_neg (Nat.not_lt_zero _)] at h1
            refine ⟨i1, r, l1, t, rfl, h1, t2 0 l1 t rfl rfl, D.lc l1 (by simp), ?_⟩
            have := (t3 0 t rfl).1
            exact Array.getElem?_eq_none (by omega)
    obtain ⟨i1, r, l1, t, e1, h1, ht, hlc, hend⟩ := ex
    have out : ∀ h', Old (z :: TO :: its) s.heap h' → (none : Option Value) = none ∧ Inv X pins σ H { s with heap := h' } := fun h' o => ⟨rfl, I.turnedL (t' := s.toks) (ch := z :: TI :: TO :: its) (fun c o' hb q => o c o' (fun q' => hb (sub c q')) q) hf⟩
    rcases hf0 with rfl | ⟨hfr, T, rfl⟩
    · refine pyNext_zip hz (zipN_end_free (fun Q q => free_none hz q) (old := old) (I.ok.hd hc) e1 D.nd hz hTI h1 ht hlc hend fun h' e o ⟨oe, he, hce⟩ => ⟨e, oe, rfl, he, hce, out h' o⟩)
    · cases hT : s.heap.get? T with
      | none => exact pyNext_zip hz (zipN_end_free (fun Q q => free_dead hz hT q) (old := old) (I.ok.hd hc) e1 D.nd hz hTI h1 ht hlc hend fun h' e o ⟨oe, he, hce⟩ => ⟨e, oe, rfl, he, hce, out h' o⟩)
      | some oT => exact pyNext_zip hz (zipN_end_held (I.ok.hd hc) e1 D.nd hz hT hTI h1 ht hlc hend fun h' e o ⟨oe, he, hce⟩ => ⟨e, oe, rfl, he, hce, out h' o⟩)
  self := fun A i s Q E st h => by
    obtain ⟨f0, b0, old, hz, _⟩ := st
    have hT : s.TypeIs (.ref z) "zip" := ⟨_, hz, rfl⟩
    refine wpAny_pyIter_slot hT F.slot_zip_iter (wpAny_call_entry F.slot_zip_iter hT F.entry_zip_iter ?_ (F.args_zip_iter_1 _))
    exact wpAny_pure ⟨_, rfl, "zip", _, hT, F.slot_zip_next.lookup, h⟩

/-! ### zip in a program -/
section
variable {X : Cx} {tg : Expr} {free : Bool} {pins : List (Addr × Obj)} {σ : L2.St} {H : Hp} {s : Shared}
theorem mem_its {a n b : Nat} (h : b ∈ (itsAt a n : List Nat)) : a ≤ b ∧ b < a + n := by
  unfold itsAt at h
  obtain ⟨j, hj, e⟩ := List.mem_map.mp h
  have := List.mem_range.mp hj
  have e : a + j = b := e
  omega
theorem its_nd (a n : Nat) : ((a + n + 2) :: (a + n) :: (a + n + 1) :: (itsAt a n : List Nat)).Nodup := by
  have nd : (itsAt a n : List Nat).Nodup := by
    unfold itsAt
    exact List.pairwise_map.mpr (List.nodup_range.imp fun {x y} h e => h (by have e : a + x = a + y := e; omega))
  refine List.nodup_cons.mpr ⟨fun h => ?_, List.nodup_cons.mpr ⟨fun h => ?_, List.nodup_cons.mpr ⟨fun h => ?_, nd⟩⟩⟩
  · rcases List.mem_cons.mp h with q | h
    · omega
    · rcases List.mem_cons.mp h with q | h
      · omega
      · have := mem_its h; omega
  · rcases List.mem_cons.mp h with q | h
    · omega
    · have := mem_its h; omega
  · have := mem_its h; omega
theorem its_ge {a n b : Nat} (h : b ∈ (a + n + 2) :: (a + n) :: (a + n + 1) :: (itsAt a n : List Nat)) : a ≤ b := by
  rcases List.mem_cons.mp h with q | h
  · omega
  · rcases List.mem_cons.mp h with q | h
    · omega
    · rcases List.mem_cons.mp h with q | h
      · omega
      · exact (mem_its h).1
theorem Cols.apart {as : List Addr} {m : Nat} {col : Nat → List V} (c : Cols X.K H as m col) (I : Inv X pins σ H s) (hne : as ≠ []) (hz : as.length ≤ sizeLine) : ApN (s.heap.objs.size + as.length + 2) (s.heap.objs.size + as.length) (s.heap.objs.size + as.length + 1) (itsAt s.heap.objs.size as.length) as := by
  refine ⟨fun e => ?_, its_nd _ _, (itsAt_len _ _).symm, fun l hl h => ?_, by rw [itsAt_len]; exact hz⟩
  · have := itsAt_len s.heap.objs.size as.length
    rw [e] at this
    exact hne (List.length_eq_zero_iff.mp this.symm)
  · obtain ⟨j, hj, e⟩ := List.getElem_of_mem hl
    obtain ⟨row, hr, _⟩ := c.row j l (by rw [List.getElem?_eq_getElem hj, e])
    obtain ⟨its, rv, p, _⟩ := I.tuple (.inl (.inl hr))
    obtain ⟨o, ho, _⟩ := p
    have hlt := Heap.lt_size ho
    refine absurd (its_ge (a := s.heap.objs.size) (n := as.length) (b := l) ?_) (Nat.not_le_of_lt hlt)
    rcases List.mem_cons.mp h with q | h
    · exact List.mem_cons.mpr (.inl q)
    · exact List.mem_cons_of_mem _ (List.mem_cons_of_mem _ h)
/-- the call and the iterator -/
theorem run_zipN (hg : TgtOk tg free) {as : List Addr} {m : Nat} {col : Nat → List V} {R : It → Hp → Prop} (I : Inv X pins σ H s) (c : Cols X.K H as m col) (hne : as ≠ []) (hz : as.length ≤ sizeLine) (q : R (ItN X.K as) H) :
    wpAny (model X.prog X.w) X.A (call (.type "zip") (as.map Value.ref)) (fun v s1 => wpAny (model X.prog X.w) X.A (pyIter v) (PIE X pins σ tg R) X.xe s1) X.xe s := by
  obtain ⟨tps, t1, t2, t3⟩ := cols_tps I c
  refine call_zipN t1 hz t2 fun h' a1 a2 a3 a4 a5 => ?_
  have T := turn_zipN (P := X.prog) (w := X.w) (K := X.K) hg (c.apart I hne hz)
  have st : tnN (s.heap.objs.size + as.length + 2) (s.heap.objs.size + as.length) (s.heap.objs.size + as.length + 1) (itsAt s.heap.objs.size as.length) as free 0 h' := ⟨_, _, _, a1, .inl rfl, a2, a3, by rw [List.length_replicate, itsAt_len], a4⟩
  refine T.self _ 0 { s with heap := h' } _ _ st ?_
  have I2 : Inv X pins σ H { s with heap := h' } := I.kept (t' := s.toks) a5
  refine ⟨_, _, _, _, H, rfl, I2, T, st, fun b hb => ?_, q⟩
  have hle : s.heap.objs.size ≤ b := its_ge hb
  exact I.fpOk hle (I.hok.fresh hle)
end
section
variable {X : Cx} {tg : Expr} {free : Bool} {e : Expr} {es : List Expr} {ta : TA} {te : TE} {p pos sp_ : Pos}
def iZipN (K : PySem.W.Frag) (ta : TA) : TI := fun σ H R => ta σ H fun vs H1 => ∃ as m col, vs = as.map V.ref ∧ as ≠ [] ∧ as.length ≤ sizeLine ∧ Cols K H1 as m col ∧ R (ItN K as) H1
theorem vals_refs : ∀ {as : List Addr} {us : List Value}, Vals (as.map V.ref) us → us = as.map Value.ref
  | [], _, .nil => rfl
  | a :: as, _, .cons r t => by
    cases r
    rw [vals_refs (as := as) t]
    rfl
/-- zip(a, b, ..), its items written -/
theorem pi_zipN (hg : Gl X "zip") (hm : X.mg "zip" = none) (ht : TgtOk tg free) (ha : PA X (e :: es) ta)
    (hs : starEach (e :: es) X.env = (false, eval e X.env) :: starEach es X.env := by rfl) (hpl : (backTo pos (starEach es X.env)).any (·.1) = false := by rfl) :
    PI X tg (.Call (.Name "zip" p) (e :: es) [] pos) (iZipN X.K ta) := by
  refine ⟨fun pins s σ H R I h => ?_⟩
  refine Call_ (ld_blt I hg hm PyProof.Rows.boot_zip (PyProof.Rows.callWith_type1 (thn (ha.run pos pins s σ H _ I h) fun us s1 ⟨vs, H1, I1, r1, q1⟩ => ?_) hs hpl))
  obtain ⟨as, m, col, rfl, hne, hz, hc, q⟩ := q1
  rw [vals_refs r1]
  exact run_zipN ht I1 hc hne hz q
def iZipS (K : PySem.W.Frag) (te : TE) : TI := fun σ H R => te σ H fun x H1 => ∃ a as m col, x = .ref a ∧ SqL K H1 a (as.map V.ref) ∧ as ≠ [] ∧ as.length ≤ sizeLine ∧ Cols K H1 as m col ∧ R (ItN K as) H1
/-- zip(*x), x a list -/
theorem pi_zipS (hg : Gl X "zip") (hm : X.mg "zip" = none) (ht : TgtOk tg free) (he : PE X e te)
    (hs : starEach [.Starred e sp_] X.env = [(true, eval e X.env)] := by rfl) :
    PI X tg (.Call (.Name "zip" p) [.Starred e sp_] [] pos) (iZipS X.K te) := by
  refine ⟨fun pins s σ H R I h => ?_⟩
  refine Call_ (ld_blt I hg hm PyProof.Rows.boot_zip ?_)
  rw [hs]
  refine PySem.W.ks_call (P := fun _ => True) rfl (fun h _ => ⟨.machine, .inr (.inl rfl), PySem.W.Looks.of_pure rfl⟩) (PySem.W.ks_lone (thn (he.run pins s σ H _ I h) fun v s1 ⟨x, H1, I1, r1, q1⟩ => ?_))
  obtain ⟨a, as, m, col, rfl, hl, hne, hz, hc, q⟩ := q1
  obtain rfl : v = Value.ref a := r1
  refine StX.star_lst I1 hl fun us s2 I2 rv => ⟨trivial, ?_⟩
  rw [vals_refs rv]
  exact run_zipN ht I2 hc hne hz q
end
end TW
/-! TWZ3: zip of three, of all; lies_between, lowest_best, highest_best. -/
namespace TW
open PySem PySem.Spec PyProof.Rows L2
section
variable {K : PySem.W.Frag} {G H : Hp}
theorem dTs_V {v : V} {k : List Int} (h : Dp K G v (dTs k)) : ∃ a, v = .ref a ∧ G a = some (.tup (k.map V.int)) := by
  obtain ⟨a, rfl, h2⟩ := dTs_at h
  rw [iK_V] at h2
  exact ⟨a, rfl, h2⟩
theorem cols_of {as : List Addr} {T : List (List Int)} {n : Nat} (p : Paired (fun (a : Addr) (z : List Int) => H a = some (.tup (z.map V.int))) as T) (hn : ∀ z ∈ T, z.length = n) : Cols K H as n fun i => (T.map fun z => z.getD i 0).map V.int := by
  have hl := pair_len p
  refine ⟨fun i _ => by rw [List.length_map, List.length_map]; exact hl.symm, fun j a ha => ?_⟩
  have gen : ∀ (bs : List Addr) (S : List (List Int)) (j : Nat) (a : Addr), Paired (fun (a : Addr) (z : List Int) => H a = some (.tup (z.map V.int))) bs S → bs[j]? = some a → ∃ z, S[j]? = some z ∧ H a = some (.tup (z.map V.int)) := by
    intro bs S j a q
    induction q generalizing j with
    | nil => intro e; simp at e
    | cons h t ih =>
      intro e
      cases j with
      | zero => simp at e; subst e; exact ⟨_, rfl, h⟩
      | succ j =>
        obtain ⟨z, h1, h2⟩ := ih j (by simpa using e)
        exact ⟨z, by simpa using h1, h2⟩
  obtain ⟨z, hz, h⟩ := gen as T j a p ha
  have zl := hn z (List.mem_of_getElem? hz)
  refine ⟨_, h, by rw [List.length_map, zl], fun i hi => ?_⟩
  rw [List.getElem?_map, List.getElem?_map, List.getElem?_map, hz, getD_at (x := z) (f := i) (by omega)]
  rfl
theorem isIt_N {as : List Addr} {m : Nat} {w : Nat → List Int} (c : Cols K G as m fun i => (w i).map V.int) : IsIt K (ItN K as) G ((List.range m).map fun i => dTs (w i)) := by
  unfold IsIt
  rw [List.length_map, List.length_range]
  refine ⟨fun i H2 hi s2 => ⟨m, _, c.mono s2, hi⟩, fun H2 s2 => ⟨m, _, c.mono s2, Nat.le_refl _⟩, fun i H2 v H' hi s2 y => ?_⟩
  obtain ⟨T, xs, rfl, hT, rfl, e⟩ := y
  have e := e m _ (c.mono s2) hi
  subst e
  refine ⟨dTs (w i), by simp [hi], fun G' s1 s3 => ⟨_, Nxt.new s3 hT, .tup upd_same (dpAll_ints _)⟩⟩
theorem pairs_of : ∀ {xs : List V} {T : List (List Int)}, DpAll K G xs (T.map dTs) → ∃ as : List Addr, xs = as.map V.ref ∧ Paired (fun (a : Addr) (z : List Int) => G a = some (.tup (z.map V.int))) as T
  | _, [], .nil => ⟨[], rfl, .nil⟩
  | _, z :: T, .cons d t => by
    obtain ⟨as, rfl, p⟩ := pairs_of (T := T) t
    obtain ⟨a, rfl, h⟩ := dTs_V d
    exact ⟨a :: as, rfl, .cons h p⟩
end
section
variable {X : Cx} {ρ : DEnv} {tg a b c e : Expr} {pos p sp_ : Pos} {free : Bool}
theorem Paired.monoH {H H' : Hp} (s : Same H H') : ∀ {as : List Addr} {T : List (List Int)}, Paired (fun (a : Addr) (z : List Int) => H a = some (.tup (z.map V.int))) as T → Paired (fun (a : Addr) (z : List Int) => H' a = some (.tup (z.map V.int))) as T
  | _, _, .nil => .nil
  | _, _, .cons h t => .cons (s _ _ h) (Paired.monoH s t)
/-- zip(a, b, c) of three tuples of ints -/
theorem di_zip3 {x y z : List Int} {n : Nat} (ht : TgtOk tg free) (hm : X.mg "zip" = none) (ha : De X a ρ (dTs x)) (hb : De X b ρ (dTs y)) (hc : De X c ρ (dTs z)) (hx : x.length = n) (hy : y.length = n) (hz : z.length = n) (hg : Gl X "zip" := by rfl)
    (hs : starEach [a, b, c] X.env = (false, eval a X.env) :: starEach [b, c] X.env := by rfl) (hs2 : starEach [b, c] X.env = (false, eval b X.env) :: starEach [c] X.env := by rfl) (hs3 : starEach [c] X.env = (false, eval c X.env) :: starEach [] X.env := by rfl) (hpl : (backTo pos (starEach [b, c] X.env)).any (·.1) = false := by rfl) :
    Di X tg (.Call (.Name "zip" p) [a, b, c] [] pos) ρ (· = (List.range n).map fun i => dTs [x.getD i 0, y.getD i 0, z.getD i 0]) := by
  refine pi_wk (pi_zipN hg hm ht (das_cons ha (das_cons hb (das_cons hc das_nil hs3) hs2) hs) hs hpl) ?_
  rintro σ H R ⟨G, s, en, q⟩
  refine ⟨G, s, en, fun xs ds' G1 H1 n1 p1 d1 => ?_⟩
  subst p1
  obtain ⟨u, v, w, rfl, du, dv, dw⟩ := dp3 d1
  obtain ⟨a1, rfl, h1⟩ := dTs_V du
  obtain ⟨a2, rfl, h2⟩ := dTs_V dv
  obtain ⟨a3, rfl, h3⟩ := dTs_V dw
  have pr : Paired (fun (a : Addr) (z : List Int) => G1 a = some (.tup (z.map V.int))) [a1, a2, a3] [x, y, z] := .cons h1 (.cons h2 (.cons h3 .nil))
  have cs := cols_of (K := X.K) (n := n) pr (by simp [hx, hy, hz])
  exact ⟨[a1, a2, a3], n, _, rfl, by simp, (show 3 ≤ sizeLine by decide), cs.mono n1.s, q _ _ G1 H1 n1 rfl (isIt_N cs)⟩
/-- zip(*e), e a list of tuples of ints -/
theorem di_zipS {P : List (List Int) → Prop} {n : Nat} (ht : TgtOk tg free) (hm : X.mg "zip" = none) (he : DeR X e ρ (fun d => ∃ T, P T ∧ d = dLs T)) (hn : ∀ T, P T → ∀ z ∈ T, z.length = n) (hne : ∀ T, P T → T ≠ []) (hz : ∀ T, P T → T.length ≤ sizeLine) (hg : Gl X "zip" := by rfl)
    (hs : starEach [.Starred e sp_] X.env = [(true, eval e X.env)] := by rfl) :
    Di X tg (.Call (.Name "zip" p) [.Starred e sp_] [] pos) ρ (fun ds => ∃ T, P T ∧ ds = (List.range n).map fun i => dTs (T.map fun z => z.getD i 0)) := by
  refine pi_wk (pi_zipS hg hm ht he hs) ?_
  rintro σ H R ⟨G, s, en, q⟩
  refine ⟨G, s, en, fun xv dx G1 H1 n1 p1 d1 => ?_⟩
  obtain ⟨T, pT, rfl⟩ := p1
  obtain ⟨l, ys, rfl, h1, h2⟩ := dp_lst_inv d1
  obtain ⟨as, rfl, pr⟩ := pairs_of h2
  have cs := cols_of (K := X.K) (n := n) pr (hn T pT)
  have hl := pair_len pr
  refine ⟨l, as, n, _, rfl, n1.s.seq h1, ?_, by rw [hl]; exact hz T pT, cs.mono n1.s, q _ _ G1 H1 n1 ⟨T, pT, rfl⟩ (isIt_N cs)⟩
  intro e0
  rw [e0] at hl
  exact hne T pT (List.length_eq_zero_iff.mp hl.symm)
end
section
variable {X : Cx} {ρ : DEnv} {tg e : Expr} {pos p sp_ : Pos} {free : Bool}
theorem di_zipSE {T : List (List Int)} {n : Nat} (ht : TgtOk tg free) (hm : X.mg "zip" = none) (he : De X e ρ (dLs T)) (hn : ∀ z ∈ T, z.length = n) (hne : T ≠ []) (hz : T.length ≤ sizeLine) (hg : Gl X "zip" := by rfl)
    (hs : starEach [.Starred e sp_] X.env = [(true, eval e X.env)] := by rfl) :
    Di X tg (.Call (.Name "zip" p) [.Starred e sp_] [] pos) ρ (· = (List.range n).map fun i => dTs (T.map fun z => z.getD i 0)) :=
  pi_wk (di_zipS (P := fun M => M = T) (n := n) ht hm (de_imp he fun d e => ⟨T, rfl, e⟩) (by rintro _ rfl; exact hn) (by rintro _ rfl; exact hne) (by rintro _ rfl; exact hz) hg hs) fun σ H R ⟨G, s, en, q⟩ => ⟨G, s, en, fun J ds G' H' nx pd it => q J ds G' H' nx (by obtain ⟨M, rfl, e⟩ := pd; exact e) it⟩
end
section
variable {P : Program} {w : World} {K : PySem.W.Frag} {mg : Str → Option Value} {base : Heap} {f : Addr} {fd : FuncData}
theorem ok_lies_between (B : Bl mg) (F : Fun K "lies_between" "lies_between" s_lies_between f fd) : FnOk P w K mg base CX0 1 f fd p_lies_between (spD K fLies) := by
  refine fun_d F sc_lies_between (fun ds R h => ?_) fun cdv A outer s H E hr ds R h => ?_
  · obtain ⟨x, y, z, rfl, _⟩ := h; rfl
  · obtain ⟨x, y, z, rfl, ⟨h1, h2, hy, hz⟩, hR⟩ := h
    have e : (List.range x.length).all (fun i => decide (x.getD i 0 ≤ z.getD i 0) && decide (z.getD i 0 ≤ y.getD i 0)) = inB x y z := by
      rw [Bool.eq_iff_iff, inB_iff rfl hy hz, List.all_eq_true]
      constructor
      · intro h f hf
        have := h f (List.mem_range.mpr hf)
        simpa using this
      · intro h f hf
        have := h f (List.mem_range.mp hf)
        simpa using this
    refine db_eq (d := .bool (inB x y z)) ?_ hR
    refine db_ret (de_eq (de_allF (L := List.range x.length) (g := fun i => decide (x.getD i 0 ≤ z.getD i 0) && decide (z.getD i 0 ≤ y.getD i 0)) rfl B.b_all (de_lcG (own := [("low", 3), ("high", 4), ("height", 5)]) (L := List.range x.length) (enc := fun i => dTs [x.getD i 0, y.getD i 0, z.getD i 0]) (f := fun i => .bool (decide (x.getD i 0 ≤ z.getD i 0) && decide (z.getD i 0 ≤ y.getD i 0))) rfl sc_lies_between.nd (blkOk_by (by kernel_rfl)) (di_zip3 (n := x.length) (free := true) (.inr ⟨rfl, _, _, _, rfl⟩) B.b_zip (de_var 0 rfl) (de_var 1 rfl) (de_var 2 rfl) rfl hy hz) rfl (fun _ _ _ _ _ => pg_tup rfl (pgs_cons (pg_name (i := 3) sc_lies_between.nd rfl (by first | exact Or.inl rfl | exact Or.inr rfl)) (pgs_cons (pg_name (i := 4) sc_lies_between.nd rfl (by first | exact Or.inl rfl | exact Or.inr rfl)) (pgs_cons (pg_name (i := 5) sc_lies_between.nd rfl (by first | exact Or.inl rfl | exact Or.inr rfl)) pgs_nil)))) (fun _ _ => tg3 3 4 5) (sz6 (by rw [List.length_range]; exact h1)) (fun _ _ _ _ _ a ha => (de_chain (de_var 3 rfl) (de_var 5 rfl) (de_var 4 rfl))))) (by rw [e]))
def fEnd (Q : Nat → List (List Int) → List Int → Prop) : List PyData → (PyData → Prop) → Prop := fun ds R => ∃ n hs x y v, ds = [dWeb n hs, dTs x, dTs y, dTs v] ∧ (Rng n hs x y ∧ WOk n v) ∧ ∀ m T z, IsBest n hs x y v m → IsTold n hs x y v m T → Q n T z → R (dTs z)
theorem ok_lowest_best (B : Bl mg) (C_need_all : Cal P w K mg base 9 "need_all" p_need_all (spD K fAll)) (C_worth_of : Cal P w K mg base 1 "worth_of" p_worth_of (spD K fWo)) (C_some_of : Cal P w K mg base 5 "some_of" p_some_of (spD K fSome)) (F : Fun K "lowest_best" "lowest_best" s_lowest_best f fd) : FnOk P w K mg base CX0 10 f fd p_lowest_best (spD K (fEnd Least)) := by
  refine fun_d F sc_lowest_best (fun ds R h => ?_) fun cdv A outer s H E hr ds R h => ?_
  · obtain ⟨n, hs, x, y, v, rfl, _⟩ := h; rfl
  · obtain ⟨n, hs, x, y, v, rfl, ⟨hq, hv⟩, hR⟩ := h
    have hw := hq.1.1.1
    refine db_expr (P := fun _ => True) (de_callC C_need_all hr (by decide) (das_cons (de_var 0 rfl) (das_cons (de_var 1 rfl) (das_cons (de_var 2 rfl) (das_cons (de_var 3 rfl) das_nil)))) ⟨n, hs, x, y, v, rfl, ⟨hq, hv⟩, trivial⟩) ?_
    refine db_set 4 sc_lowest_best.nd (P := fun d => ∃ L, IsAll n hs x y L ∧ d = dLs L) (de_callC C_some_of hr (by decide) (das_cons (de_var 0 rfl) (das_cons (de_var 1 rfl) (das_cons (de_var 2 rfl) das_nil))) ⟨n, hs, x, y, rfl, hq, fun L hL => ⟨L, hL, rfl⟩⟩) ?_
    rintro _ ⟨L, hL, rfl⟩
    have hbt : ∀ a, a ∈ L → Btw n hs x y a := fun a ha => (hL.all a).mp ha
    obtain ⟨m, hm⟩ := has_max (L.map fun z => wo z v) (by rw [List.length_map]; exact hL.pos hq)
    have M := hL.max hm
    have hT := hL.told (w := v) (m := m)
    have hl5 := hL.le hq
    have hTl := List.length_filter_le (fun z => decide (wo z v = m)) L
    obtain ⟨u, U, hu⟩ := fold_mn hw M _ (hT.ne M) fun z hz => (hT.tops z).mp hz
    refine db_setE 5 (d := .int m) sc_lowest_best.nd (de_maxL (P := fun ns => ns = L.map fun z => wo z v) rfl B.b_max (de_imp (de_lcG (own := [("laying", 6)]) (L := L) (enc := dTs) (f := fun z => .int (wo z v)) rfl sc_lowest_best.nd (blkOk_by (by kernel_rfl)) (di_listE (de_var 4 rfl)) rfl (fun _ _ _ _ _ => pg_name (i := 6) sc_lowest_best.nd rfl (by first | exact Or.inl rfl | exact Or.inr rfl)) (fun _ _ => tgN 6) (sz6 (by omega)) (fun _ _ _ _ _ a ha => (de_callC C_worth_of hr (by decide) (das_cons (de_var 6 rfl) (das_cons (de_var 3 rfl) das_nil)) ⟨a, v, rfl, ⟨(hbt a ha).sz hw, hv.bnd⟩, rfl⟩))) fun d e => ⟨_, rfl, by rw [e, List.map_map]; rfl⟩) (by rintro _ rfl; rw [List.length_map]; exact hL.pos hq) (by rintro _ k rfl hk; rw [hk.uniq hm])) ?_
    refine db_asg (i := 7) (ps_lcF (own := [("laying", 6)]) (L := L) (enc := dTs) (q := fun z => decide (wo z v = m)) (f := dTs) rfl sc_lowest_best.nd rfl rfl (sw_true rfl rfl rfl (by decide +kernel)) (blkOk_by (by kernel_rfl)) (di_listE (de_var 4 rfl)) rfl (fun _ _ _ _ _ => pg_name (i := 6) sc_lowest_best.nd rfl (by first | exact Or.inl rfl | exact Or.inr rfl)) (fun _ _ => tgN 6) (sz6 (by omega)) (fun _ _ _ _ _ a ha => (dt_eqI (de_callC C_worth_of hr (by decide) (das_cons (de_var 6 rfl) (das_cons (de_var 3 rfl) das_nil)) ⟨a, v, rfl, ⟨(hbt a ha).sz hw, hv.bnd⟩, rfl⟩) (de_var 5 rfl))) (fun _ _ _ _ _ a ha hp => (de_var 6 rfl))) ?_
    rintro _ rfl
    refine db_imp (db_ret (de_tupleE B.b_tuple (de_lcG (own := [("heights", 8)]) (L := List.range n) (enc := fun i => dTs ((L.filter fun z => decide (wo z v = m)).map fun z => z.getD i 0)) (f := fun i => .int (u.getD i 0)) rfl sc_lowest_best.nd (blkOk_by (by kernel_rfl)) (di_zipSE (n := n) (T := L.filter fun z => decide (wo z v = m)) (free := false) (.inl ⟨rfl, _, _, rfl⟩) B.b_zip (de_var 7 rfl) (fun z hz => ((hT.tops z).mp hz).b.lay.len) (hT.ne M) (by rw [sizeLine_eq]; omega)) rfl (fun _ _ _ _ _ => pg_name (i := 8) sc_lowest_best.nd rfl (by first | exact Or.inl rfl | exact Or.inr rfl)) (fun _ _ => tgN 8) (sz6 (by rw [List.length_range]; have := hw.small; omega)) (fun _ _ _ _ _ a ha => (de_minT rfl B.b_min (de_var 8 rfl) ?_))))) ?_
    · have h := hu a (List.mem_range.mp ha)
      obtain ⟨⟨b, hb, eb⟩, h2⟩ := h
      exact ⟨List.mem_map.mpr ⟨b, hb, eb⟩, fun k hk => by
        obtain ⟨c, hc, e⟩ := List.mem_map.mp hk
        rw [← e]; exact h2 c hc⟩
    · rintro d rfl
      have e : (List.range n).map (fun i => PyData.int (u.getD i 0)) = u.map .int := by
        apply List.ext_getElem?
        intro i
        have ul := U.b.lay.len
        by_cases hi : i < n
        · rw [List.getElem?_map, List.getElem?_map, List.getElem?_range hi, getD_at (x := u) (f := i) (by omega)]; rfl
        · rw [List.getElem?_eq_none (by simp; omega), List.getElem?_eq_none (by simp; omega)]
      show R (.tuple ((List.range n).map fun i => PyData.int (u.getD i 0)))
      rw [e]
      exact hR m _ u M hT ⟨U.b.lay.len, hu⟩
theorem ok_highest_best (B : Bl mg) (C_need_all : Cal P w K mg base 9 "need_all" p_need_all (spD K fAll)) (C_worth_of : Cal P w K mg base 1 "worth_of" p_worth_of (spD K fWo)) (C_some_of : Cal P w K mg base 5 "some_of" p_some_of (spD K fSome)) (F : Fun K "highest_best" "highest_best" s_highest_best f fd) : FnOk P w K mg base CX0 10 f fd p_highest_best (spD K (fEnd Most)) := by
  refine fun_d F sc_highest_best (fun ds R h => ?_) fun cdv A outer s H E hr ds R h => ?_
  · obtain ⟨n, hs, x, y, v, rfl, _⟩ := h; rfl
  · obtain ⟨n, hs, x, y, v, rfl, ⟨hq, hv⟩, hR⟩ := h
    have hw := hq.1.1.1
    refine db_expr (P := fun _ => True) (de_callC C_need_all hr (by decide) (das_cons (de_var 0 rfl) (das_cons (de_var 1 rfl) (das_cons (de_var 2 rfl) (das_cons (de_var 3 rfl) das_nil)))) ⟨n, hs, x, y, v, rfl, ⟨hq, hv⟩, trivial⟩) ?_
    refine db_set 4 sc_highest_best.nd (P := fun d => ∃ L, IsAll n hs x y L ∧ d = dLs L) (de_callC C_some_of hr (by decide) (das_cons (de_var 0 rfl) (das_cons (de_var 1 rfl) (das_cons (de_var 2 rfl) das_nil))) ⟨n, hs, x, y, rfl, hq, fun L hL => ⟨L, hL, rfl⟩⟩) ?_
    rintro _ ⟨L, hL, rfl⟩
    have hbt : ∀ a, a ∈ L → Btw n hs x y a := fun a ha => (hL.all a).mp ha
    obtain ⟨m, hm⟩ := has_max (L.map fun z => wo z v) (by rw [List.length_map]; exact hL.pos hq)
    have M := hL.max hm
    have hT := hL.told (w := v) (m := m)
    have hl5 := hL.le hq
    have hTl := List.length_filter_le (fun z => decide (wo z v = m)) L
    obtain ⟨u, U, hu⟩ := fold_mx hw M _ (hT.ne M) fun z hz => (hT.tops z).mp hz
    refine db_setE 5 (d := .int m) sc_highest_best.nd (de_maxL (P := fun ns => ns = L.map fun z => wo z v) rfl B.b_max (de_imp (de_lcG (own := [("laying", 6)]) (L := L) (enc := dTs) (f := fun z => .int (wo z v)) rfl sc_highest_best.nd (blkOk_by (by kernel_rfl)) (di_listE (de_var 4 rfl)) rfl (fun _ _ _ _ _ => pg_name (i := 6) sc_highest_best.nd rfl (by first | exact Or.inl rfl | exact Or.inr rfl)) (fun _ _ => tgN 6) (sz6 (by omega)) (fun _ _ _ _ _ a ha => (de_callC C_worth_of hr (by decide) (das_cons (de_var 6 rfl) (das_cons (de_var 3 rfl) das_nil)) ⟨a, v, rfl, ⟨(hbt a ha).sz hw, hv.bnd⟩, rfl⟩))) fun d e => ⟨_, rfl, by rw [e, List.map_map]; rfl⟩) (by rintro _ rfl; rw [List.length_map]; exact hL.pos hq) (by rintro _ k rfl hk; rw [hk.uniq hm])) ?_
    refine db_asg (i := 7) (ps_lcF (own := [("laying", 6)]) (L := L) (enc := dTs) (q := fun z => decide (wo z v = m)) (f := dTs) rfl sc_highest_best.nd rfl rfl (sw_true rfl rfl rfl (by decide +kernel)) (blkOk_by (by kernel_rfl)) (di_listE (de_var 4 rfl)) rfl (fun _ _ _ _ _ => pg_name (i := 6) sc_highest_best.nd rfl (by first | exact Or.inl rfl | exact Or.inr rfl)) (fun _ _ => tgN 6) (sz6 (by omega)) (fun _ _ _ _ _ a ha => (dt_eqI (de_callC C_worth_of hr (by decide) (das_cons (de_var 6 rfl) (das_cons (de_var 3 rfl) das_nil)) ⟨a, v, rfl, ⟨(hbt a ha).sz hw, hv.bnd⟩, rfl⟩) (de_var 5 rfl))) (fun _ _ _ _ _ a ha hp => (de_var 6 rfl))) ?_
    rintro _ rfl
    refine db_imp (db_ret (de_tupleE B.b_tuple (de_lcG (own := [("heights", 8)]) (L := List.range n) (enc := fun i => dTs ((L.filter fun z => decide (wo z v = m)).map fun z => z.getD i 0)) (f := fun i => .int (u.getD i 0)) rfl sc_highest_best.nd (blkOk_by (by kernel_rfl)) (di_zipSE (n := n) (T := L.filter fun z => decide (wo z v = m)) (free := false) (.inl ⟨rfl, _, _, rfl⟩) B.b_zip (de_var 7 rfl) (fun z hz => ((hT.tops z).mp hz).b.lay.len) (hT.ne M) (by rw [sizeLine_eq]; omega)) rfl (fun _ _ _ _ _ => pg_name (i := 8) sc_highest_best.nd rfl (by first | exact Or.inl rfl | exact Or.inr rfl)) (fun _ _ => tgN 8) (sz6 (by rw [List.length_range]; have := hw.small; omega)) (fun _ _ _ _ _ a ha => (de_maxT rfl B.b_max (de_var 8 rfl) ?_))))) ?_
    · have h := hu a (List.mem_range.mp ha)
      obtain ⟨⟨b, hb, eb⟩, h2⟩ := h
      exact ⟨List.mem_map.mpr ⟨b, hb, eb⟩, fun k hk => by
        obtain ⟨c, hc, e⟩ := List.mem_map.mp hk
        rw [← e]; exact h2 c hc⟩
    · rintro d rfl
      have e : (List.range n).map (fun i => PyData.int (u.getD i 0)) = u.map .int := by
        apply List.ext_getElem?
        intro i
        have ul := U.b.lay.len
        by_cases hi : i < n
        · rw [List.getElem?_map, List.getElem?_map, List.getElem?_range hi, getD_at (x := u) (f := i) (by omega)]; rfl
        · rw [List.getElem?_eq_none (by simp; omega), List.getElem?_eq_none (by simp; omega)]
      show R (.tuple ((List.range n).map fun i => PyData.int (u.getD i 0)))
      rw [e]
      exact hR m _ u M hT ⟨U.b.lay.len, hu⟩
end
end TW
/-! TWT: sorted(d.items()) of a dict of ints; worth_tally. -/
namespace TW
open PySem PySem.Spec PyProof.Rows L2
section
variable {X : Cx} {pins : List (Addr × Obj)} {σ : L2.St} {H : Hp} {s : Shared}
open PySem.W (EachIs)
def rItemsD : V → List V → Hp → VK → Prop := fun x xs H Q => ∃ (a : Addr) (kvs : List (L2.Key × V)), x = .ref a ∧ xs = [] ∧ H a = some (.dK kvs) ∧ ∀ p, H p = none → Q (.ref p) (upd H p (DX.itemsO p a))
theorem mt_itemsD : MtR X "dict.items" rItemsD := by
  intro pins s σ H x xs v us Q I rx rxs h
  obtain ⟨a, kvs, rfl, rfl, ha, q⟩ := h
  cases rx
  cases rxs
  obtain ⟨z, hd, vs, rel, o, es, ep, ho, hx, hdat, _⟩ := (show ObjOk X.prog X.w H s.heap a (.dK kvs) from I.hok a _ ha)
  refine DT.callItems (es := es) (ep := ep) hd ⟨o, ho, hx, hdat⟩ ?_
  have hf : H s.heap.objs.size = none := I.hok.fresh (Nat.le_refl _)
  exact ⟨.ref s.heap.objs.size, upd H s.heap.objs.size (DX.itemsO s.heap.objs.size a), I.laid (t' := s.toks) (fun b u e => Heap.get?_push_of_some _ e) (Nat.le_refl _) (DX.itemsO_ok (Heap.get?_push_size _ rfl)), rfl, q _ hf⟩
theorem pairs_at {prog : Program} {w : World} {κ : Type} [DecidableEq κ] {knd : KeyKind prog w κ} : ∀ {es : List DictEntry} {kvs : List (κ × Value)} {j : Nat} {en : DictEntry}, Pairs knd es kvs → es[j]? = some en → ∃ kv, kvs[j]? = some kv ∧ knd.is kv.1 en.key = true ∧ en.val = kv.2
  | _, _, _, _, .nil, e => by simp at e
  | _, _, 0, _, .cons h1 h2 _, e => by
    have e := Option.some.inj e
    subst e
    exact ⟨_, rfl, h1, h2⟩
  | _, _, j + 1, _, .cons _ _ t, e => by
    obtain ⟨kv, a, b⟩ := pairs_at (j := j) t (by simpa using e)
    exact ⟨kv, by simpa using a, b⟩
theorem pairs_len {prog : Program} {w : World} {κ : Type} [DecidableEq κ] {knd : KeyKind prog w κ} : ∀ {es : List DictEntry} {kvs : List (κ × Value)}, Pairs knd es kvs → es.length = kvs.length
  | _, _, .nil => rfl
  | _, _, .cons _ _ t => by rw [List.length_cons, List.length_cons, pairs_len t]
abbrev entD (e : Int × Int) : L2.Key × V := (Sum.inl e.1, V.int e.2)
abbrev encP (e : Int × Int) : PyData := dTs [e.1, e.2]
abbrev LexLe (p q : Int × Int) : Prop := p.1 < q.1 ∨ (p.1 = q.1 ∧ p.2 ≤ q.2)
theorem sort_lex (bs : List (Int × Int)) : (bs.mergeSort (PySem.W.dataLe false encP)).Pairwise LexLe := by
  have e : PySem.W.dataLe false encP = fun p q : Int × Int => decide (p.1 < q.1 ∨ (p.1 = q.1 ∧ p.2 ≤ q.2)) := PySem.W.dataLe_ii (fun p : Int × Int => p.1) (fun p => p.2)
  rw [e]
  refine (List.pairwise_mergeSort (fun a b c h1 h2 => ?_) (fun a b => ?_) bs).imp fun {a b} h => of_decide_eq_true h
  · have h1 := of_decide_eq_true h1
    have h2 := of_decide_eq_true h2
    exact decide_eq_true (by omega)
  · simp only [Bool.or_eq_true, decide_eq_true_eq]
    omega
def rSortItD : List V → Hp → VK → Prop := fun vs H Q => ∃ (p a : Addr) (its : List (Int × Int)), vs = [.ref p] ∧ H p = some (DX.itemsO p a) ∧ H a = some (.dK (its.map entD)) ∧ its.length ≤ 1000 ∧
  ∀ (H' : Hp) (l : Addr) (bs : List Addr) (ms : List (Int × Int)), ms.Perm its → ms.Pairwise LexLe → Same H H' → H l = none → H' l = some (.lst (bs.map V.ref)) → Paired (fun (b : Addr) (m : Int × Int) => H' b = some (.tup [.int m.1, .int m.2])) bs ms → Q (.ref l) H'
theorem cr_sortedItD (hc : X.calm = true) (hu : X.A.units + 64 < cLine) : CallR X (.builtin "sorted") rSortItD := by
  intro pins s σ H xs us Q I r h
  obtain ⟨p, a, its, rfl, hp, ha, h64, q⟩ := h
  obtain rfl := Vals.ref1 r
  have view : s.heap.IsItemsView p a := (show ObjOk X.prog X.w H s.heap p (DX.itemsO p a) from I.hok p _ hp).1
  obtain ⟨z, hd, vs, rel, o, es, ep, ho, hx, hdat, hko, hpr, hn⟩ := (show ObjOk X.prog X.w H s.heap a (.dK (its.map entD)) from I.hok a _ ha)
  have l1 : (its.map entD).length = vs.length := Paired.length rel
  rw [List.length_map] at l1
  have l2 : es.size = vs.length := by rw [← Array.length_toList]; exact pairs_len hpr
  have hh : X.A.handled = none := I.ok.hd hc
  refine DT.sortedI (es := es) (ep := ep) hh view ⟨o, ho, hx, hdat⟩ (by rw [sizeLine_eq]; omega) fun h' tk as hk hlt hl hG => ?_
  have lak : as.length = its.length := by omega
  have nd : as.Nodup := List.Pairwise.imp (fun h => Nat.ne_of_lt h) hG.rise
  have pr : ∀ (j : Nat) (b : Addr), as[j]? = some b → ∃ (e : Int × Int) (t t' : Tok), its[j]? = some e ∧ h'.get? b = some { cls := .type "tuple", data := .seq #[Value.int e.1 t, Value.int e.2 t'] } := by
    intro j b hj
    obtain ⟨en, he, hg⟩ := hG.pairs j b hj
    obtain ⟨kv, hkv, hk1, hk2⟩ := pairs_at hpr (by rw [Array.getElem?_toList]; exact he)
    obtain ⟨e0, he0, r1, r2⟩ := DX.pget rel hkv
    rw [List.getElem?_map] at he0
    cases hi : its[j]? with
    | none => rw [hi] at he0; cases he0
    | some e =>
      rw [hi] at he0
      have ee : entD e = e0 := Option.some.inj he0
      subst ee
      rw [← r1] at hk1
      have hk1' : keyIs (Sum.inl e.1) en.key = true := hk1
      obtain ⟨t', r2'⟩ : ∃ t', kv.2 = Value.int e.2 t' := r2
      rcases keyIs_shape hk1' with ⟨i, t, e1, e2⟩ | ⟨x, t, e1, e2⟩
      · have : e.1 = i := Sum.inl.inj e1
        subst this
        exact ⟨e, t, t', rfl, by rw [hg, e2, hk2, r2']⟩
      · cases e1
  have I1 : Inv X pins σ H { s with heap := h', toks := tk } := I.kept (t' := tk) hk
  obtain ⟨H2, I2, gr, qt⟩ := DX.takeT (P := fun b vs => ∃ (j : Nat) (e : Int × Int), as[j]? = some b ∧ its[j]? = some e ∧ vs = [.int e.1, .int e.2]) I as H I1 nd fun b hb => by
    obtain ⟨j, hj⟩ := List.mem_iff_getElem?.mp hb
    obtain ⟨e, t, t', he, hg⟩ := pr j b hj
    have hbl : s.heap.objs.size ≤ b := Nat.le_of_lt (hG.above b hb)
    exact ⟨hbl, I.hok.fresh hbl, [.int e.1, .int e.2], ⟨j, e, hj, he, rfl⟩, fun H3 => ⟨(by rw [sizeLine_eq]; show 2 ≤ 16777216; omega), [Value.int e.1 t, Value.int e.2 t'], .cons ⟨t, rfl⟩ (.cons ⟨t', rfl⟩ .nil), ⟨_, hg, rfl, 0, rfl⟩⟩⟩
  have at2 : ∀ (j : Nat) (b : Addr) (e : Int × Int), as[j]? = some b → its[j]? = some e → H2 b = some (.tup [.int e.1, .int e.2]) := fun j b e hj he => by
    obtain ⟨vs', ⟨i, e', hi, he', rfl⟩, hH⟩ := qt b (List.mem_of_getElem? hj)
    have eij : i = j := (List.getElem?_inj (List.getElem?_eq_some_iff.mp hi).1 nd).mp (hi.trans hj.symm)
    subst eij
    rw [he] at he'
    cases he'
    exact hH
  have eK : EachIs (fun u (e : Int × Int) => IsK H2 u [e.1, e.2]) (as.map Value.ref) its := by
    have gen : ∀ (cs : List Addr) (ns : List (Int × Int)), cs.length = ns.length → (∀ (j : Nat) (b : Addr) (e : Int × Int), cs[j]? = some b → ns[j]? = some e → H2 b = some (.tup [.int e.1, .int e.2])) → EachIs (fun u (e : Int × Int) => IsK H2 u [e.1, e.2]) (cs.map Value.ref) ns := by
      intro cs
      induction cs with
      | nil => intro ns hl _; cases ns with | nil => exact .nil | cons => simp at hl
      | cons c cs ih =>
        intro ns hl h
        cases ns with
        | nil => simp at hl
        | cons n ns => exact .cons ⟨c, rfl, h 0 c n rfl rfl⟩ (ih ns (by simpa using hl) fun j b e a1 a2 => h (j + 1) b e (by simpa using a1) (by simpa using a2))
    exact gen as its lak at2
  have hoL : (h'.push (seqObj "list" (as.map Value.ref).toArray 0)).get? h'.objs.size = some (seqObj "list" (as.map Value.ref).toArray 0) := Heap.get?_push_size _ rfl
  have er : EachIs (fun v (b : Int × Int) => ∃ cs, Reads (h'.push (seqObj "list" (as.map Value.ref).toArray 0)) v (encP b) cs ∧ h'.objs.size ∉ cs) (as.map Value.ref) its := eK.mono fun u m e => ⟨[], PyProof.Rows.Reads.keeps (fun b o q => Heap.get?_push_of_some _ q) (e.reads I2.hok), by simp⟩
  have hal : PySem.W.AllAlike (its.map encP) := by
    have := dTs_alike (its.map fun e => [e.1, e.2])
    rwa [List.map_map] at this
  have hso : PySem.W.Sortable (its.map encP) := by
    have := dTs_sortable (ks := its.map fun e => [e.1, e.2]) (fun k hk => by obtain ⟨e, _, rfl⟩ := List.mem_map.mp hk; simp)
    rwa [List.map_map] at this
  refine PySem.W.list_sort_data (s := { s with heap := h'.push (seqObj "list" (as.map Value.ref).toArray 0), toks := tk }) (enc := encP) (R := fun u (e : Int × Int) => IsK H2 u [e.1, e.2]) hoL eK er hal hso (by rw [sizeLine_eq]; omega) (fun b _ => by have : (encP b).depth ≤ 1 := dTs_depth [b.1, b.2]; show X.A.in1.units + 1 + _ < _; have e := PyProof.Rows.units_in1 X.A; omega) fun out h1 h2 => ?_
  have back : ∀ {us : List Value} {ms : List (Int × Int)}, EachIs (fun u (e : Int × Int) => IsK H2 u [e.1, e.2]) us ms → ∃ bs : List Addr, us = bs.map Value.ref ∧ Paired (fun (b : Addr) (m : Int × Int) => H2 b = some (.tup [.int m.1, .int m.2])) bs ms := by
    intro us ms h
    induction h with
    | nil => exact ⟨[], rfl, .nil⟩
    | cons r t ih =>
      obtain ⟨bs, e2, p⟩ := ih
      obtain ⟨b, e, hb⟩ := r
      exact ⟨b :: bs, by rw [e, e2]; rfl, .cons hb p⟩
  obtain ⟨bs, rfl, pb⟩ := back h2
  obtain ⟨e', he'⟩ := PyProof.Rows.sortedHeap_at (vs := as.map Value.ref) (out := (bs.map Value.ref).toArray) hoL
  rw [List.length_map] at h1
  have hlen : (bs.map V.ref).length ≤ sizeLine := by rw [List.length_map, h1, sizeLine_eq]; omega
  have hn2 : H2 h'.objs.size = none := I2.hok.fresh (Nat.le_refl _)
  have hn0 : H h'.objs.size = none := I1.hok.fresh (Nat.le_refl _)
  refine ⟨.ref h'.objs.size, upd H2 h'.objs.size (.lst (bs.map V.ref)), I2.laid (t' := tk) (fun b u e => ?_) (Nat.le_refl _) (show ObjOk X.prog X.w _ _ _ (.lst (bs.map V.ref)) from ⟨hlen, bs.map Value.ref, e', L2.vals_refs bs, he'⟩), rfl, q _ _ bs _ (List.mergeSort_perm _ _) (sort_lex its) (fun b o e => ?_) hn0 upd_same (Paired.mapP pb fun b m hb => ?_)⟩
  · have hb : b < h'.objs.size := Heap.lt_size e
    rw [PyProof.Rows.sortedHeap_old (Nat.ne_of_lt hb) (by rw [size_push']; exact Nat.lt_succ_of_lt hb)]
    exact Heap.get?_push_of_some _ e
  · rw [upd_ne (ne_of_none e hn0)]; exact gr b o e
  · rw [upd_ne (ne_of_none hb hn2)]; exact hb
end
section
variable {P : Program} {w : World} {K : PySem.W.Frag} {mg : Str → Option Value} {base : Heap} {f : Addr} {fd : FuncData}
theorem val_get : ∀ (its : List (Int × Int)) (k : Int), (valV (its.map entD) (Sum.inl k : L2.Key)).getD (V.int 0) = V.int (gtI its k)
  | [], k => rfl
  | p :: r, k => by
    have ih := val_get r k
    rw [List.map_cons]
    unfold gtI
    by_cases e : p.1 = k
    · rw [if_pos e, valV_pos (p := entD p) (by show Sum.inl p.1 = _; rw [e])]; rfl
    · rw [if_neg e, valV_neg (p := entD p) (fun q => e (Sum.inl.inj q)), ih]
theorem put_get : ∀ (its : List (Int × Int)) (k : Int), (its.map (·.1)).Nodup → putK (its.map entD) (Sum.inl k : L2.Key) (V.int (gtI its k + 1)) = (ptI its k).map entD
  | [], k, _ => rfl
  | p :: r, k, nd => by
    rw [List.map_cons, List.nodup_cons] at nd
    have ih := put_get r k nd.2
    unfold gtI ptI
    unfold putK at ih ⊢
    by_cases e : p.1 = k
    · rw [if_pos e, if_pos e, List.map_cons, List.map_cons, List.any_cons, decide_eq_true (show (entD p).1 = Sum.inl k by show Sum.inl p.1 = _; rw [e]), Bool.true_or, if_pos rfl, List.map_cons, if_pos (show (entD p).1 = Sum.inl k by show Sum.inl p.1 = _; rw [e])]
      have : (r.map entD).map (fun kv => if kv.1 = Sum.inl k then (kv.1, V.int (p.2 + 1)) else kv) = r.map entD := by
        rw [List.map_map]
        refine List.map_congr_left fun q hq => ?_
        show (if (entD q).1 = Sum.inl k then _ else _) = _
        rw [if_neg]
        intro h
        have : q.1 = k := Sum.inl.inj h
        exact nd.1 (List.mem_map.mpr ⟨q, hq, by rw [this, e]⟩)
      rw [this]
    · have ne : ¬ (entD p).1 = (Sum.inl k : L2.Key) := fun h => e (Sum.inl.inj h)
      rw [if_neg e, if_neg e, List.map_cons, List.map_cons, List.any_cons, decide_eq_false ne, Bool.false_or]
      show _ = entD p :: (ptI r k).map entD
      rw [← ih]
      split
      · rfl
      · rw [List.cons_append]
theorem dp_pairs {H' : Hp} : ∀ {bs : List Addr} {ms : List (Int × Int)}, Paired (fun (b : Addr) (m : Int × Int) => H' b = some (.tup [.int m.1, .int m.2])) bs ms → DpAll K H' (bs.map V.ref) (ms.map encP)
  | _, _, .nil => .nil
  | _, _, .cons h t => .cons (.tup h (.cons (.int _) (.cons (.int _) .nil))) (dp_pairs t)
def fTally : List PyData → (PyData → Prop) → Prop := fun ds R => ∃ n hs x y v, ds = [dWeb n hs, dTs x, dTs y, dTs v] ∧ (Rng n hs x y ∧ WOk n v) ∧ ∀ L its, IsAll n hs x y L → Tally L v its → R (.tuple (its.map encP))
theorem ok_worth_tally (B : Bl mg) (C_need_all : Cal P w K mg base 9 "need_all" p_need_all (spD K fAll)) (C_worth_of : Cal P w K mg base 1 "worth_of" p_worth_of (spD K fWo)) (C_some_of : Cal P w K mg base 5 "some_of" p_some_of (spD K fSome)) (F : Fun K "worth_tally" "worth_tally" s_worth_tally f fd) : FnOk P w K mg base CX0 10 f fd p_worth_tally (spD K fTally) := by
  refine F.ok sc_worth_tally (fun vs H Q E h => ?_) (fun cdv A outer s H vs Q E hr h => ?_)
  · obtain ⟨G, ds, R, _, dp, ⟨n, hs, x, y, v, rfl, _⟩, _⟩ := h
    exact dpAll_len dp
  · obtain ⟨G, ds, R, sG, dp, ⟨n, hs, x, y, v, rfl, ⟨hq, hv⟩, hR⟩, q⟩ := h
    have hnd := sc_worth_tally.nd
    obtain ⟨wv, fv, rv, vv, rfl, dw, df, dr, dv⟩ := dp4 dp
    have hw := hq.1.1.1
    have hu := hr.units
    have hu1 : (A.deeper (envOfC "worth_tally" (defScope s_worth_tally) s.heap.objs.size f cdv)).units + 1 < cLine := by omega
    refine ⟨_, pss_cons (ps_expr (de_callC (R := fun _ => True) (ρ := [some (dWeb n hs), some (dTs x), some (dTs y), some (dTs v), none, none, none]) C_need_all hr (by decide) (das_cons (de_var 0 rfl) (das_cons (de_var 1 rfl) (das_cons (de_var 2 rfl) (das_cons (de_var 3 rfl) das_nil)))) ⟨n, hs, x, y, v, rfl, ⟨hq, hv⟩, trivial⟩))
      (pss_cons (ps_set (i := 4) hnd rfl (.inl rfl) pe_dnewK)
        (pss_cons (ps_for PassesOwn.never rfl (di_listP (P := IsAll n hs x y) (enc := dTs) (ρ := [some (dWeb n hs), some (dTs x), some (dTs y), some (dTs v), none, none, none]) (de_callC C_some_of hr (by decide) (das_cons (de_var 0 rfl) (das_cons (de_var 1 rfl) (das_cons (de_var 2 rfl) das_nil))) ⟨n, hs, x, y, rfl, hq, fun L hL => ⟨L, hL, rfl⟩⟩)) (pg_name (i := 5) hnd rfl (.inl rfl))
          (pss_ex (A := fun z : List Int => Btw n hs x y z) fun z hz => pss_cons (ps_set (i := 6) hnd rfl (.inl rfl) (de_callC (R := fun d => d = .int (wo z v)) (ρ := [none, none, none, some (dTs v), none, some (dTs z), none]) (ds := [dTs z, dTs v]) C_worth_of hr (by decide) (das_cons (de_var 5 rfl) (das_cons (de_var 3 rfl) das_nil)) ⟨z, v, rfl, ⟨hz.sz hw, hv.bnd⟩, rfl⟩))
            (pss_one (ps_dput hu1 (pv 4) (pv 6) (pe_op op_add (pe_dget2 hu1 (pv 4) (pv 6) pe_int ⟨rfl, rfl, rfl, rfl⟩) pe_int) rfl))))
          (pss_one (ps_ret (pe_callTy call_tuple_of rfl B.b_tuple PyProof.Rows.boot_tuple (pa_cons (pe_callB (cr_sortedItD rfl hu) rfl B.b_sorted boot_sorted (pa_cons (pe_bm0 PySem.F.plainAttrs_dict PySem.F.slot_dict_items PySem.F.type_dict_items mt_itemsD (pv 4)) pa_nil)) pa_nil)))))), ?_⟩
    have en : EnvD K G [some wv, some fv, some rv, some vv, none, none, none] [some (dWeb n hs), some (dTs x), some (dTs y), some (dTs v), none, none, none] := evS dw (evS df (evS dr (evS dv (evN (evN (evN ev0))))))
    refine q_seq (q_drop (q_D sG en fun _ _ G1 H1 n1 _ _ => ?_))
    dsimp only
    refine q_seq (q_set ?_)
    refine fun d hd => ?_
    have hd0 : H d = none := n1.h.free hd
    have gd1 : G1 d = none := n1.s.free hd
    have n2 := n1.trans (Nxt.new0 (o := .dK []) n1.s hd)
    dsimp only
    refine q_seq ?_
    refine t_for (K := K) n2.s (ρ := [some (dWeb n hs), some (dTs x), some (dTs y), some (dTs v), none, none, none]) ?_ (fun ds i σ3 G3 H3 => ∃ (L : List (List Int)) (its : List (Int × Int)) (y5 y6 : Option V), IsAll n hs x y L ∧ ds = L.map dTs ∧ σ3 = [some wv, some fv, some rv, some vv, some (.ref d), y5, y6] ∧ Nxt G H G3 H3 ∧ G3 d = none ∧ H3 d = some (.dK (its.map entD)) ∧ Tal ((L.take i).map fun z => wo z v) its) ?_ ?_ ?_ ?_
    · exact evS (dp_mono n1.g dw) (evS (dp_mono n1.g df) (evS (dp_mono n1.g dr) (evS (dp_mono n1.g dv) (evN (evN (evN ev0))))))
    · rintro ds G3 H3 ⟨L, hL, rfl⟩ n3
      have a1 := n3.stay (o := .dK []) upd_same gd1 trivial
      exact ⟨L, [], none, none, hL, rfl, rfl, n2.trans n3, a1.2, a1.1, tal_nil⟩
    · rintro ds i σ3 G3 H3 G4 H4 _ ⟨L, its, y5, y6, hL, rfl, rfl, nx, gd, hfd, T⟩ n3
      have a1 := n3.stay hfd gd trivial
      exact ⟨L, its, y5, y6, hL, rfl, rfl, nx.trans n3, a1.2, a1.1, T⟩
    · rintro ds i dd xv σ3 G3 H3 _ hdd ⟨L, its, y5, y6, hL, rfl, rfl, nx, gd, hfd, T⟩ g3 s3 dxv N2 hN2
      rw [List.getElem?_map] at hdd
      cases hz : L[i]? with
      | none => rw [hz] at hdd; cases hdd
      | some z =>
        rw [hz] at hdd
        have e5 : dTs z = dd := Option.some.inj hdd
        subst e5
        have hb := (hL.all z).mp (List.mem_of_getElem? hz)
        have hl5 := hL.le hq
        refine ⟨z, hb, ?_⟩
        refine q_seq (q_set ?_)
        refine ⟨G3, s3, evN (evN (evN (evS (dp_mono nx.g dv) (evN (evS dxv (evN ev0)))))), fun tv td G4 H4 n5 e6 dt => ?_⟩
        subst e6
        cases dt
        have a1 := n5.stay hfd gd trivial
        have nx5 := nx.trans n5
        have Tl := T.len
        rw [List.length_map, List.length_take] at Tl
        dsimp only
        refine ⟨.ref d, rfl, d, rfl, .inl ⟨_, .inl a1.1⟩, .int (wo z v), rfl, _, DGet.k (k := Sum.inl (wo z v)) a1.1, ?_⟩
        rw [val_get]
        refine ⟨_, _, rfl, rfl, .ref d, rfl, .int (wo z v), rfl, d, _, rfl, DPut.k (k := Sum.inl (wo z v)) a1.1 (by rw [List.length_map, sizeLine_eq]; omega), ?_⟩
        rw [put_get _ _ T.nd]
        have nx6 := nx5.mut (o := .dK ((ptI its (wo z v)).map entD)) hd0 a1.2
        refine hN2 _ G4 _ n5.g nx6.s ⟨L, ptI its (wo z v), _, _, hL, rfl, rfl, nx6, a1.2, upd_same, ?_⟩
        have et : L.take (i + 1) = L.take i ++ [z] := by rw [List.take_succ, hz]; rfl
        rw [et, List.map_append]
        exact T.put _
    · rintro ds σ3 G3 H3 _ ⟨L, its, y5, y6, hL, rfl, rfl, nx, gd, hfd, T⟩ g3 s3
      rw [List.length_map, List.take_length] at T
      have hl5 := hL.le hq
      have Tl := T.len
      rw [List.length_map] at Tl
      refine ⟨.ref d, rfl, .inr (.inr (.inl ⟨rfl, .inl ⟨_, hfd⟩⟩)), d, _, rfl, rfl, hfd, fun p hp => ?_⟩
      have hdp : d ≠ p := ne_of_none hfd hp
      refine ⟨p, d, its, rfl, upd_same, by rw [upd_ne hdp]; exact hfd, by omega, fun H4 l bs ms hpm hso hsm hl0 hl1 pr => ?_⟩
      have n4 := nx.trans (Nxt.new0 (o := DX.itemsO p d) nx.s hp)
      have n5 : Nxt G H G3 H4 := n4.trans ⟨hsm, Same.refl _, n4.s.trans hsm, fun _ h _ => h⟩
      refine ⟨l, _, rfl, .inl ⟨.inl (.inl hl1), fun t ht => ?_⟩⟩
      have n6 := n5.trans (Nxt.new (o := .tup (bs.map V.ref)) n5.s ht)
      have n7 := n6.tups
      refine q _ _ _ _ n7 (hR L ms hL (T.tally hpm hso)) (.tup (tupG_at upd_same) ?_)
      refine dp_pairs (Paired.mapP pr fun b m hb => ?_)
      have hbt : b ≠ t := ne_of_none hb ht
      exact tupG_at (by rw [upd_ne hbt]; exact hb)
end
end TW
/-! TWQ: dict(zip(list, tuple)). -/
namespace TW
open PySem PySem.Spec PyProof.Rows L2
section
variable {prog : Program} {w : World}
theorem pairArg_zip (z TI TO : Addr) (its ls : List Addr) (ks : List Bool) (D : ApN z TI TO its ls) (t0 t1 : Array Value) (n : Nat) (h0 : t0.size = n) (h1 : t1.size = n) (h2 : its.length = 2) :
    PairArg prog w "zip" z (z :: TI :: TO :: (its ++ ls)) (z :: TO :: its) n (fun i k v => t0[i]? = some k ∧ t1[i]? = some v)
      (fun h => IsZ h z TI TO .none false ∧ IsT h TI (its.map Value.ref) ∧ (∃ old, IsT h TO old ∧ old.length = its.length) ∧ Its ks h its ls 0 0 ∧ Tps ks h ls [t0, t1] ∧ ∀ l ∈ ls, ∃ o, h.get? l = some o) := by
  have zTO : z ≠ TO := fun e => (List.nodup_cons.mp D.nd).1 (by simp [e])
  have zTI : z ≠ TI := fun e => (List.nodup_cons.mp D.nd).1 (by simp [e])
  have TITO : TI ≠ TO := fun e => (List.nodup_cons.mp (List.nodup_cons.mp D.nd).2).1 (by simp [e])
  have TIits : TI ∉ its := fun e => (List.nodup_cons.mp (List.nodup_cons.mp D.nd).2).1 (by simp [e])
  have zits : z ∉ its := fun e => (List.nodup_cons.mp D.nd).1 (by simp [e])
  have TIo : TI ∉ z :: TO :: its := fun q => by
    rcases List.mem_cons.mp q with q | q
    · exact zTI q.symm
    · rcases List.mem_cons.mp q with q | q
      · exact TITO q
      · exact TIits q
  refine
  { type := fun s ok => ⟨_, ok.1, rfl⟩
    notDict := by decide
    keep := fun h h' ok hk => ?_
    there := fun h ok b hb => ?_
    sub := fun b hb => ?_
    noKeys := fun A s Q E hA ok h => getAttrOr_miss_zip ok.1 rfl rfl rfl zip_no_keys (by decide +kernel) hA h
    iter := fun A s d Q E hA ok hd hdf h => ?_ }
  · obtain ⟨hz, hTI, ⟨old, hTO, hol⟩, hI, hT, hl⟩ := ok
    exact ⟨hk _ _ hz, hk _ _ hTI, ⟨old, hk _ _ hTO, hol⟩, hI.keep fun it _ o e => hk _ o e, fun j l t e1 e2 => (hT j l t e1 e2).at' fun o e => hk _ o e, fun l hm => let ⟨o, e⟩ := hl l hm; ⟨o, hk _ _ e⟩⟩
  · obtain ⟨hz, hTI, ⟨old, hTO, hol⟩, hI, hT, hl⟩ := ok
    rcases List.mem_cons.mp hb with rfl | hb
    · exact ⟨_, hz⟩
    · rcases List.mem_cons.mp hb with rfl | hb
      · exact ⟨_, hTI⟩
      · rcases List.mem_cons.mp hb with rfl | hb
        · exact ⟨_, hTO⟩
        · rcases List.mem_append.mp hb with hb | hb
          · obtain ⟨j, hj, e⟩ := List.getElem_of_mem hb
            have e1 : its[j]? = some b := by rw [List.getElem?_eq_getElem hj, e]
            have e2 : ls[j]? = some (ls[j]'(by rw [D.ll]; exact hj)) := List.getElem?_eq_getElem _
            obtain ⟨o, ho, _⟩ := (hI j _ _ e1 e2).obj
            exact ⟨o, ho⟩
          · exact hl b hb
  · rcases List.mem_cons.mp hb with rfl | hb
    · simp
    · rcases List.mem_cons.mp hb with rfl | hb
      · simp
      · simp [hb]
  · obtain ⟨hz, hTI, ⟨old, hTO, hol⟩, hI, hT, hl⟩ := ok
    have dz : d ≠ z := fun e => hdf (by simp [e])
    have dTI : d ≠ TI := fun e => hdf (by simp [e])
    have dTO : d ≠ TO := fun e => hdf (by simp [e])
    have dits : d ∉ its := fun e => hdf (by simp [e])
    have dls : d ∉ ls := fun e => hdf (by simp [e])
    refine wpAny_pyIter_zip hz (h z (z :: TO :: its) (fun i h => IsT h TI (its.map Value.ref) ∧ Its ks h its ls i 0 ∧ Tps ks h ls [t0, t1] ∧ (∃ old, IsT h TO old ∧ old.length = its.length) ∧
      ((∃ f, IsZ h z TI TO .none f) ∨ ∃ (T : Addr) (f : Bool) (oT : Obj), IsZ h z TI TO (rawInt T) f ∧ h.get? T = some oT ∧ T ∉ z :: TO :: its ∧ T ≠ d)) s.heap s.toks ?_ ⟨hTI, hI, hT, ⟨old, hTO, hol⟩, .inl ⟨_, hz⟩⟩ (fun _ _ e => e) fun b hb => .inl hb)
    exact {
      off := fun hm => by
        rcases List.mem_cons.mp hm with q | hm
        · exact dz q
        · rcases List.mem_cons.mp hm with q | hm
          · exact dTO q
          · exact dits hm
      frame := fun i h₁ h₂ st hk => by
        obtain ⟨hTI, hI, hT, ⟨old, hTO, hol⟩, hz⟩ := st
        refine ⟨hk _ _ (Ne.symm dTI) hTI, hI.keep fun it hm o e => hk _ o (fun q => dits (q ▸ hm)) e, fun j l t e1 e2 => (hT j l t e1 e2).at' fun o e => hk _ o (fun q => dls (q ▸ List.mem_of_getElem? e1)) e, ⟨old, hk _ _ (Ne.symm dTO) hTO, hol⟩, ?_⟩
        rcases hz with ⟨f, hz⟩ | ⟨T, f, oT, hz, hT', r1, r2⟩
        · exact .inl ⟨f, hk _ _ (Ne.symm dz) hz⟩
        · exact .inr ⟨T, f, oT, hk _ _ (Ne.symm dz) hz, hk _ _ r2 hT', r1, r2⟩
      item := fun i s₁ Q₁ E₁ hi st hds hQ => by
        obtain ⟨hTI, hI, hT, ⟨old, hTO, hol⟩, hz⟩ := st
        have ex := Array.getElem?_eq_getElem (xs := t0) (i := i) (by omega)
        have ey := Array.getElem?_eq_getElem (xs := t1) (i := i) (by omega)
        have htl : ([t0, t1] : List (Array Value)).length = its.length := h2.symm
        have hxl : ([t0[i]'(by omega), t1[i]'(by omega)] : List Value).length = its.length := h2.symm
        have hx : ∀ (j : Nat) (t : Array Value) (x : Value), [t0, t1][j]? = some t → ([t0[i]'(by omega), t1[i]'(by omega)] : List Value)[j]? = some x → t[i]? = some x := fun j t x a b => by
          match j with
          | 0 => cases a; cases b; exact ex
          | 1 => cases a; cases b; exact ey
          | j + 2 => simp at a
        have nm : s₁.heap.objs.size ∉ z :: TO :: its := fun hm => by
          have lt : ∀ {c o}, s₁.heap.get? c = some o → s₁.heap.objs.size ≠ c := fun e => Nat.ne_of_gt (Heap.lt_size e)
          rcases List.mem_cons.mp hm with q | hm
          · rcases hz with ⟨f, hz⟩ | ⟨T, f, oT, hz, _⟩
            · exact lt hz q
            · exact lt hz q
          · rcases List.mem_cons.mp hm with q | hm
            · exact lt hTO q
            · obtain ⟨j, hj, e⟩ := List.getElem_of_mem hm
              have e1 : its[j]? = some s₁.heap.objs.size := by rw [List.getElem?_eq_getElem hj, e]
              have e2 : ls[j]? = some (ls[j]'(by rw [D.ll]; exact hj)) := List.getElem?_eq_getElem _
              obtain ⟨o, ho, _⟩ := (hI j _ _ e1 e2).obj
              exact lt ho rfl
        rcases hz with ⟨f, hz⟩ | ⟨T, f, oT, hz, hT', r1, r2⟩
        · refine pyNext_zip hz (zipN_free (fun Q q => free_none hz q) D.ne D.nd D.ll htl D.lc hz hTI hTO hol hI hT hxl hx D.sz fun h' c1 c2 c3 c4 c5 => ?_)
          exact hQ s₁.heap.objs.size _ _ h' s₁.toks ⟨ex, ey⟩ (.inl ⟨_, c4, rfl, _, rfl⟩) ⟨c5 _ _ TIo hTI, c3, fun j l t e1 e2 => (hT j l t e1 e2).at' fun o e => c5 _ o (D.lc l (List.mem_of_getElem? e1)) e, ⟨_, c2, hxl⟩,
            .inr ⟨_, _, _, c1, c4, nm, Nat.ne_of_gt hds⟩⟩ fun b o hb e => c5 b o hb e
        · refine pyNext_zip hz (zipN_held D.ne D.nd D.ll htl D.lc hz hT' hTI hTO hI hT hxl hx D.sz fun h' c1 c3 c4 c5 c2 => ?_)
          exact hQ s₁.heap.objs.size _ _ h' s₁.toks ⟨ex, ey⟩ (.inl ⟨_, c4, rfl, _, rfl⟩) ⟨c5 _ _ TIo hTI, c3, fun j l t e1 e2 => (hT j l t e1 e2).at' fun o e => c5 _ o (D.lc l (List.mem_of_getElem? e1)) e, ⟨old, c2, hol⟩,
            .inr ⟨T, _, oT, c1, c5 _ _ r1 hT', r1, r2⟩⟩ fun b o hb e => c5 b o hb e
      done := fun s₁ Q₁ E₁ st hQ => by
        obtain ⟨hTI, hI, hT, ⟨old, hTO, hol⟩, hz⟩ := st
        have ex1 : ∃ i1 r l1, its = i1 :: r ∧ ls[0]? = some l1 ∧ l1 ∉ z :: TO :: its := by
          have hne := D.ne
          have hll := D.ll
          cases hh : its with
          | nil => exact absurd hh hne
          | cons i1 r =>
            cases hk : ls with
            | nil => rw [hh, hk] at hll; simp at hll
            | cons l1 lr => exact ⟨i1, r, l1, rfl, rfl, hh ▸ D.lc l1 (by rw [hk]; simp)⟩
        obtain ⟨i1, r, l1, e1, e2, hlc⟩ := ex1
        have hit := hI 0 i1 l1 (by rw [e1]; rfl) e2
        rw [if_neg (Nat.not_lt_zero _)] at hit
        have hlt := hT 0 l1 t0 e2 rfl
        have hend : t0[n]? = none := Array.getElem?_eq_none (by omega)
        rcases hz with ⟨f, hz⟩ | ⟨T, f, oT, hz, hT', r1, r2⟩
        · exact pyNext_zip hz (zipN_end_free (fun Q q => free_none hz q) (old := old) hA e1 D.nd hz hTI hit hlt hlc hend fun h' e o ⟨oe, he, hce⟩ => ⟨e, oe, rfl, he, hce, hQ h' s₁.toks fun b ob hb q => o b ob hb q⟩)
        · exact pyNext_zip hz (zipN_end_held hA e1 D.nd hz hT' hTI hit hlt hlc hend fun h' e o ⟨oe, he, hce⟩ => ⟨e, oe, rfl, he, hce, hQ h' s₁.toks fun b ob hb q => o b ob hb q⟩) }
end
section
variable {X : Cx}
theorem has_merge : ∀ (more acc : List (L2.Key × V)), (∀ p ∈ more, ∃ i, p.2 = V.int i) → ∀ k, ((∃ i, valV acc k = some (V.int i)) ∨ k ∈ more.map (·.1)) → ∃ i, valV (mergeK acc more) k = some (V.int i)
  | [], acc, _, k, h => by
    rcases h with h | h
    · exact h
    · simp at h
  | p :: r, acc, hi, k, h => by
    show ∃ i, valV (mergeK (putK acc p.1 p.2) r) k = some (V.int i)
    refine has_merge r _ (fun q hq => hi q (List.mem_cons_of_mem _ hq)) k ?_
    by_cases e : k = p.1
    · obtain ⟨i, hv⟩ := hi p List.mem_cons_self
      exact .inl ⟨i, by rw [valV_put, if_pos e, hv]⟩
    · rcases h with ⟨i, h⟩ | h
      · exact .inl ⟨i, by rw [valV_put, if_neg e]; exact h⟩
      · rw [List.map_cons] at h
        rcases List.mem_cons.mp h with h | h
        · exact absurd h e
        · exact .inr h
def tDictZip (K : PySem.W.Frag) (ta : TA) : TE := fun σ H Q => ta σ H fun vs H1 => ∃ (a b : Addr) (ns ms : List Int), vs = [.ref a, .ref b] ∧ SqL K H1 a (ns.map V.int) ∧ SqT K H1 b (ms.map V.int) ∧ ns.length = ms.length ∧ ns.length ≤ 1000 ∧
  ∀ d kvs, H1 d = none → kvs.length ≤ ns.length → (∀ k ∈ ns, ∃ i, valV kvs (Sum.inl k : L2.Key) = some (V.int i)) → Q (.ref d) (upd H1 d (.dK kvs))
theorem pe_dictZip {a b : Expr} {ta : TA} {p p2 q pos : Pos} (hg : Gl X "dict") (hm : X.mg "dict" = none) (hg2 : Gl X "zip") (hm2 : X.mg "zip" = none) (ha : PA X [a, b] ta) (hc : X.calm = true := by rfl)
    (hs : starEach [a, b] X.env = (false, eval a X.env) :: starEach [b] X.env := by rfl) (hpl : (backTo q (starEach [b] X.env)).any (·.1) = false := by rfl)
    (na : starEach [.Call (.Name "zip" p2) [a, b] [] q] X.env = (false, eval (.Call (.Name "zip" p2) [a, b] [] q) X.env) :: starEach [] X.env := by rfl) :
    PE X (.Call (.Name "dict" p) [.Call (.Name "zip" p2) [a, b] [] q] [] pos) (tDictZip X.K ta) := by
  refine ⟨fun pins s σ H Q I h => ?_⟩
  refine Call_ (ld_blt I hg hm PyProof.Rows.boot_dict ?_)
  refine PyProof.Rows.callWith_type1 (PyProof.Rows.args_cons ?_ na) na rfl
  refine Call_ (ld_blt I hg2 hm2 PyProof.Rows.boot_zip ?_)
  refine PyProof.Rows.callWith_type1 (thn (ha.run q pins s σ H _ I h) fun us s1 ⟨vs, H1, I1, r1, q1⟩ => ?_) hs hpl
  obtain ⟨l, m, ns, ms, rfl, hl, ht, hlen, hsm, q1⟩ := q1
  obtain rfl : us = [l, m].map Value.ref := by
    cases r1 with
    | cons r rr =>
      cases rr with
      | cons r' rr =>
        cases rr
        cases r
        cases r'
        rfl
  obtain ⟨its, rv, p1, _⟩ := I1.list hl
  obtain ⟨its2, rv2, p3, _⟩ := I1.tuple ht
  have l1 : its.length = ns.length := by rw [← rv.length, List.length_map]
  have l2 : its2.length = ns.length := by rw [← rv2.length, List.length_map, hlen]
  have hT : Tps [true, false] s1.heap [l, m] [its.toArray, its2.toArray] := fun j c t e1 e2 => by
    match j with
    | 0 => cases e1; cases e2; exact p1.isList
    | 1 => cases e1; cases e2; exact p3
    | j + 2 => simp at e1
  have lt1 : l < s1.heap.objs.size := by obtain ⟨o, ho, _⟩ := p1.isList; exact Heap.lt_size ho
  have lt2 : m < s1.heap.objs.size := by obtain ⟨o, ho, _⟩ := p3; exact Heap.lt_size ho
  refine call_zipN (ks := [true, false]) (tps := [its.toArray, its2.toArray]) rfl (show 2 ≤ sizeLine by decide) hT fun h' a1 a2 a3 a4 a5 => ?_
  refine PyProof.Rows.args_nil ?_
  have D : ApN (s1.heap.objs.size + [l, m].length + 2) (s1.heap.objs.size + [l, m].length) (s1.heap.objs.size + [l, m].length + 1) (itsAt s1.heap.objs.size [l, m].length) [l, m] := by
    refine ⟨fun e => ?_, its_nd _ _, (itsAt_len _ _).symm, fun c hcm hm' => ?_, by rw [itsAt_len]; show 2 ≤ sizeLine; decide⟩
    · have := itsAt_len s1.heap.objs.size [l, m].length
      rw [e] at this
      cases this
    · have hlt : c < s1.heap.objs.size := by
        have e' : c = l ∨ c = m := by simpa using hcm
        rcases e' with rfl | rfl
        · exact lt1
        · exact lt2
      refine absurd (its_ge (a := s1.heap.objs.size) (n := [l, m].length) (b := c) ?_) (Nat.not_le_of_lt hlt)
      rcases List.mem_cons.mp hm' with q | h
      · exact List.mem_cons.mpr (.inl q)
      · exact List.mem_cons_of_mem _ (List.mem_cons_of_mem _ h)
  have P := pairArg_zip (prog := X.prog) (w := X.w) _ _ _ _ _ [true, false] D its.toArray its2.toArray ns.length (by simpa using l1) (by simpa using l2) (itsAt_len _ _)
  have rel : ∃ (kvs : List (L2.Key × V)) (prs : List (L2.Key × Value)), KV kvs prs ∧ kvs.length = ns.length ∧ (∀ k ∈ ns, (Sum.inl k : L2.Key) ∈ kvs.map (·.1)) ∧ (∀ p ∈ kvs, ∃ i, p.2 = V.int i) ∧ PairsHave (mixKind X.prog X.w) ns.length (fun i k v => its.toArray[i]? = some k ∧ its2.toArray[i]? = some v) prs := by
    have gen : ∀ (ns ms : List Int) (us us2 : List Value), ns.length = ms.length → Vals (ns.map V.int) us → Vals (ms.map V.int) us2 → ∃ (kvs : List (L2.Key × V)) (prs : List (L2.Key × Value)), KV kvs prs ∧ kvs.length = ns.length ∧ (∀ k ∈ ns, (Sum.inl k : L2.Key) ∈ kvs.map (·.1)) ∧ (∀ p ∈ kvs, ∃ i, p.2 = V.int i) ∧ prs.length = ns.length ∧ ∀ (i : Nat) (key v : Value), us[i]? = some key → us2[i]? = some v → ∃ k, prs[i]? = some (k, v) ∧ keyIs k key = true := by
      intro ns
      induction ns with
      | nil => exact fun ms us us2 _ r _ => ⟨[], [], .nil, rfl, by simp, by simp, rfl, fun i key v e _ => by cases r; simp at e⟩
      | cons n ns ih =>
        intro ms us us2 hl r r2
        cases ms with
        | nil => simp at hl
        | cons m ms =>
          cases r with
          | cons r rr =>
            cases r2 with
            | cons r2 rr2 =>
              obtain ⟨kvs, prs, b1, b2, b3, b4, b5, b6⟩ := ih ms _ _ (by simpa using hl) rr rr2
              obtain ⟨t, rfl⟩ := r
              refine ⟨(Sum.inl n, V.int m) :: kvs, (Sum.inl n, _) :: prs, .cons ⟨rfl, r2⟩ b1, by simp [b2], fun k hk => ?_, fun p hp => ?_, by simp [b5], fun i key v e1 e2 => ?_⟩
              · rcases List.mem_cons.mp hk with rfl | hk
                · exact List.mem_cons_self
                · exact List.mem_cons_of_mem _ (b3 k hk)
              · rcases List.mem_cons.mp hp with rfl | hp
                · exact ⟨m, rfl⟩
                · exact b4 p hp
              · cases i with
                | zero =>
                  cases e1; cases e2
                  exact ⟨_, rfl, by simp [keyIs, Value.isInt]⟩
                | succ i =>
                  obtain ⟨k, c1, c2⟩ := b6 i key v (by simpa using e1) (by simpa using e2)
                  exact ⟨k, by simpa using c1, c2⟩
    obtain ⟨kvs, prs, b1, b2, b3, b4, b5, b6⟩ := gen ns ms its its2 hlen rv rv2
    exact ⟨kvs, prs, b1, b2, b3, b4, b5, fun i key v ⟨e1, e2⟩ => b6 i key v (by simpa using e1) (by simpa using e2)⟩
  obtain ⟨kvs, prs, b1, b2, b3, b4, b5⟩ := rel
  have I2 : Inv X pins σ H1 { s1 with heap := h' } := I1.kept (t' := s1.toks) a5
  refine PySem.call_dict_pairs (s := { s1 with heap := h' }) (kvs := prs) P (I.ok.hd hc) ⟨a1, a2, ⟨_, a3, by rw [List.length_replicate, itsAt_len]⟩, a4, fun j c t e1 e2 => (hT j c t e1 e2).at' fun o e => a5 _ o e, fun c hcm => ?_⟩ b5 (by rw [sizeLine_eq]; omega) fun h2 tk hd' hk => ?_
  · have e' : c = l ∨ c = m := by simpa using hcm
    rcases e' with rfl | rfl
    · obtain ⟨o, ho, _⟩ := p1.isList; exact ⟨o, a5 _ _ ho⟩
    · obtain ⟨o, ho, _⟩ := p3; exact ⟨o, a5 _ _ ho⟩
  · have hmm : (h'.objs.size == sysModules) = false := beq_eq_false_iff_ne.mpr (Nat.ne_of_gt I2.big)
    have hlen2 : (mergeK [] kvs).length ≤ ns.length := by
      have := length_mergeK kvs []
      rw [List.length_nil, b2] at this
      omega
    have kp : ∀ b u, s1.heap.get? b = some u → h2.get? b = some u := fun b u e => hk b u (fun hm' => by
      have hlt := Heap.lt_size e
      refine absurd (its_ge (a := s1.heap.objs.size) (n := [l, m].length) (b := b) ?_) (Nat.not_le_of_lt hlt)
      rcases List.mem_cons.mp hm' with q | h
      · exact List.mem_cons.mpr (.inl q)
      · exact List.mem_cons_of_mem _ (List.mem_cons_of_mem _ h)) (a5 _ _ e)
    have hle : s1.heap.objs.size ≤ h'.objs.size := Nat.le_of_lt (Nat.lt_of_le_of_lt (its_ge (a := s1.heap.objs.size) (n := [l, m].length) (b := s1.heap.objs.size + [l, m].length + 2) List.mem_cons_self) (Heap.lt_size a1))
    exact ⟨.ref h'.objs.size, upd H1 h'.objs.size (.dK (mergeK [] kvs)), I1.laid (t' := tk) kp hle (show ObjOk X.prog X.w _ _ _ (.dK (mergeK [] kvs)) from ⟨Nat.le_trans hlen2 (by rw [sizeLine_eq]; omega), hmm, merged [] prs, KV.merge b1 .nil, hd'⟩), rfl,
      q1 _ _ (I2.hok.fresh (Nat.le_refl _)) hlen2 fun k hk' => has_merge kvs [] b4 _ (.inr (b3 k hk'))⟩
end
end TW
/-! TWR: the items of a dict with tuple keys; the sum of its values; kept_at. -/
namespace TW
open PySem PySem.Spec PyProof.Rows L2
def ItiT (d : Addr) (o : Obj) (kvs : List (List L2.Key × V)) : It :=
  ⟨fun i H => H d = some (.frz o (.dT kvs)) ∧ i < kvs.length,
   fun i H v H' => ∃ T q k x, v = .ref T ∧ kvs[i]? = some (k, x) ∧ H q = some (.tup (k.map kV)) ∧ H T = none ∧ H' = upd H T (.tup [.ref q, x]),
   fun i H => H d = some (.frz o (.dT kvs)) ∧ kvs.length ≤ i⟩
section
variable {X : Cx} {pins : List (Addr × Obj)} {σ : L2.St} {H : Hp} {s : Shared}
theorem frzT {d : Addr} {o : Obj} {kvs : List (List L2.Key × V)} (I : Inv X pins σ H s) (h : H d = some (.frz o (.dT kvs))) :
    (d == sysModules) = false ∧ ∃ (es : Array DictEntry) (ep : Nat), o.data = .dict es ep ∧ DT.Raw s.heap d es ep ∧ es.size = kvs.length ∧ kvs.length ≤ sizeLine ∧
      ∀ (i : Nat) (k : List L2.Key) (x : V), kvs[i]? = some (k, x) → ∃ (en : DictEntry) (q : Addr), es[i]? = some en ∧ en.key = .ref q ∧ RelV x en.val ∧ H q = some (.tup (k.map kV)) := by
  obtain ⟨hgd, z, hd, xs, rel, o', es, ep, ho, hx, hdat, hes, hn⟩ := (show ObjOk X.prog X.w H s.heap d (.frz o (.dT kvs)) from I.hok d _ h)
  rw [hgd] at ho
  cases ho
  refine ⟨hd, es, ep, hdat, ⟨o, hgd, hx, hdat⟩, by rw [size_of_entries hes]; exact (Paired.length rel).symm, z, fun i k x e => ?_⟩
  have gen : ∀ {l : List (List L2.Key × V)} {m : List (List L2.Key × Addr × Value)} {i : Nat} {p : List L2.Key × V}, Paired (fun (p : List L2.Key × V) (q : List L2.Key × Addr × Value) => p.1 = q.1 ∧ H q.2.1 = some (.tup (p.1.map kV)) ∧ RelV p.2 q.2.2) l m → l[i]? = some p → ∃ y, m[i]? = some y ∧ p.1 = y.1 ∧ H y.2.1 = some (.tup (p.1.map kV)) ∧ RelV p.2 y.2.2 := by
    intro l m i p q
    induction q generalizing i with
    | nil => intro e; simp at e
    | cons r t ih =>
      intro e
      cases i with
      | zero =>
        have e := Option.some.inj e
        subst e
        exact ⟨_, rfl, r⟩
      | succ i =>
        obtain ⟨y, a, b⟩ := ih (i := i) (by simpa using e)
        exact ⟨y, by simpa using a, b⟩
  obtain ⟨y, hy, _, r2, r3⟩ := gen rel e
  refine ⟨entryOfKey (tupleKind (mixKind X.prog X.w)) y, y.2.1, ?_, rfl, r3, r2⟩
  have := entry_at hes i
  rw [this, hy]
  rfl
theorem turn_itemsT {P : Program} {w : World} {K : PySem.W.Frag} {d : Addr} {o : Obj} {es : Array DictEntry} {ep : Nat} {kvs : List (List L2.Key × V)} {elts : List Expr} {kk : Nat} {tpos : Pos} (it : Addr) (hod : o.data = .dict es ep) :
    Turn P w K (.Tuple elts kk tpos) (ItiT d o kvs) [it] it (fun i h => ∃ ok ov, IsItemIter h it d i es.size ep ok ov) where
  mem := by simp
  obj := fun i h st b hb => by
    have e : b = it := by simpa using hb
    subst e
    obtain ⟨ok, ov, e⟩ := st
    exact ⟨_, e, fun v z => nomatch z⟩
  keep := fun i h h' st k => let ⟨ok, ov, e⟩ := st; ⟨ok, ov, k it (by simp) _ e⟩
  item := by
    intro X hP hw hK hc i pins s σ H E I hf st hg
    subst hP hw hK
    obtain ⟨hd, hi⟩ := hg
    obtain ⟨hs, es', ep', hdt, raw, hsz, hle, hat⟩ := frzT I hd
    obtain ⟨rfl, rfl⟩ := dict_ep hod hdt
    obtain ⟨⟨k, v⟩, hkv⟩ : ∃ p, kvs[i]? = some p := ⟨kvs[i], List.getElem?_eq_getElem hi⟩
    obtain ⟨en, q, he1, he2, he3, he4⟩ := hat i k v hkv
    obtain ⟨ok, ov, he⟩ := st
    have hi2 : i < es'.size := by omega
    have een : es'[i] = en := by
      have := Array.getElem?_eq_getElem hi2
      rw [he1] at this
      exact (Option.some.inj this).symm
    have hlt : it < s.heap.objs.size := Heap.lt_size he
    refine DT.nextI he raw hi2 fun h' ho hT hz hk => ?_
    refine ⟨_, rfl, wpAny_letOwnedTupleGo_items (s := { s with heap := h' }) ho fun h'' he' sb => ?_⟩
    rw [een, he2] at hT
    have hT2 : h''.get? s.heap.objs.size = some { cls := .type "tuple", data := .seq #[Value.ref q, en.val] } := (sb.2 _ (Nat.ne_of_gt hlt)).trans hT
    have new : ObjOk X.prog X.w (upd H s.heap.objs.size (.tup [.ref q, v])) h'' s.heap.objs.size (.tup [.ref q, v]) :=
      ⟨by show 2 ≤ sizeLine; decide, [.ref q, en.val], .cons rfl (.cons he3 .nil), ⟨_, hT2, rfl, _, rfl⟩⟩
    have I1 : Inv X pins σ (upd H s.heap.objs.size (.tup [.ref q, v])) { s with heap := h'' } :=
      I.turnedNew (t' := s.toks) (ch := [it]) (fun b ob hb e => (sb.2 b (by simpa using hb)).trans (hk b ob (by simpa using hb) e)) hf (Nat.le_refl _) new
    refine ⟨.ref s.heap.objs.size, _, I1, rfl, ⟨_, q, k, v, rfl, hkv, he4, I.hok.fresh (Nat.le_refl _), rfl⟩, ⟨_, _, he'⟩, fun b hb => ?_⟩
    have e : b = it := by simpa using hb
    rw [e, upd_ne (Nat.ne_of_lt hlt)]
    exact (hf it (by simp)).1
  done := by
    intro X hP hw hK hc i pins s σ H E I hf st hg
    subst hP hw hK
    obtain ⟨hd, hi⟩ := hg
    obtain ⟨f0, f1, f2, f3, f4, f5⟩ := hf it (by simp)
    obtain ⟨hs, es', ep', hdt, raw, hsz, hle, hat⟩ := frzT I hd
    obtain ⟨rfl, rfl⟩ := dict_ep hod hdt
    obtain ⟨ok, ov, he⟩ := st
    exact DT.endI (I.ok.hd hc) he raw (by omega) fun h' eb => ⟨rfl, I.turned (t' := s.toks) (fun b ob hb e => eb b ob hb e) f0 f1 f3 f4 f5⟩
  self := fun A i s Q E st h => let ⟨_, _, e⟩ := st; PySem.W.kcp_self e h
def iItemsT (td : TE) : TI := fun σ H R => td σ H fun x H1 => ∃ d o kvs, x = .ref d ∧ H1 d = some (.frz o (.dT kvs)) ∧ R (ItiT d o kvs) H1
theorem pi_itemsT {e : Expr} {td : TE} {elts : List Expr} {kk : Nat} {tpos apos cpos : Pos} (he : PE X e td) (hbase : attributeBase e "items" X.env (eval e X.env) = eval e X.env := by rfl) (hline : (apos.endLine == cpos.line) = true := by rfl) :
    PI X (.Tuple elts kk tpos) (.Call (.Attribute e "items" apos) [] [] cpos) (iItemsT td) := by
  refine ⟨fun pins s σ H R I h => ?_⟩
  refine wpAny_Call_method (T := "dict") (id := "dict.items") hbase rfl hline PySem.F.plainAttrs_dict PySem.F.slot_dict_items PySem.F.type_dict_items (thn (he.run pins s σ H _ I h) fun u s1 ⟨x, H1, I1, rx, d, o, kvs, ex, hd, q⟩ => ?_)
  subst ex
  obtain rfl : u = Value.ref d := rx
  obtain ⟨hs, es, ep, hdt, raw, hsz, hle, hat⟩ := frzT I1 hd
  obtain ⟨od, hod, hcd, hdd⟩ := id raw
  refine ⟨raw.typeIs, fun b e => by cases e; exact ⟨od, hod, hcd.2.1⟩, ?_⟩
  show wpAny _ _ (callWith cpos (.builtin "dict.items") [.ref d] [] []) _ X.xe s1
  have I2 : Inv X pins σ H1 { s1 with heap := s1.heap.push { cls := .type "dict_items", data := .fields #[.ref d] } } := I1.kept (t' := s1.toks) fun b ob q => Heap.get?_push_of_some _ q
  refine Calls.callWith_builtin rfl (PySem.evalArgs_none (DT.callItems hs raw ?_))
  refine DT.iterI (es := es) (ep := ep) (d := d) (s := { s1 with heap := s1.heap.push { cls := .type "dict_items", data := .fields #[.ref d] } }) ⟨_, Heap.get?_push_size _ rfl, rfl, rfl⟩ (raw.push _) ?_
  exact pi_one (tk := s1.toks) I2 _ (turn_itemsT _ hdt) ⟨.none, .none, Heap.get?_push_size _ rfl⟩ q

/-! ### sum(d.values()) -/
def valuesO (p d : Addr) : HO := .ext fun h => h.IsValuesView p d
def rValuesT : V → List V → Hp → VK → Prop := fun x xs H Q => ∃ (a : Addr) (kvs : List (List L2.Key × V)), x = .ref a ∧ xs = [] ∧ H a = some (.dT kvs) ∧ ∀ p, H p = none → Q (.ref p) (upd H p (valuesO p a))
theorem mt_valuesT : MtR X "dict.values" rValuesT := by
  intro pins s σ H x xs v us Q I rx rxs h
  obtain ⟨a, kvs, rfl, rfl, ha, q⟩ := h
  cases rx
  cases rxs
  obtain ⟨z, hd, xs', rel, o, es, ep, ho, hx, hdat, _⟩ := dt_of I.hok ha
  have raw : s.heap.DictRaw a es ep := ⟨o, ho, hx, hdat⟩
  refine call_meetsIn PySem.F.slot_dict_values raw.typeIs PySem.F.entry_dict_values (PySem.F.args_dict_values_1 _) (PySem.meets_dict_values_raw a hd) ⟨⟨es, ep, raw⟩, ?_⟩
  have hf : H s.heap.objs.size = none := I.hok.fresh (Nat.le_refl _)
  exact ⟨.ref s.heap.objs.size, upd H s.heap.objs.size (valuesO s.heap.objs.size a), I.laid (t' := s.toks) (fun b u e => Heap.get?_push_of_some _ e) (Nat.le_refl _) (show ObjOk X.prog X.w _ _ _ (valuesO s.heap.objs.size a) from ⟨⟨_, Heap.get?_push_size _ rfl, rfl, rfl⟩, ⟨_, Heap.get?_push_size _ rfl⟩, fun h1 h2 x k => let ⟨o, ho, r⟩ := x; ⟨o, k o ho, r⟩⟩), rfl, q _ hf⟩
def rSumVals : List V → Hp → VK → Prop := fun vs H Q => ∃ (p a : Addr) (kvs : List (List L2.Key × V)), vs = [.ref p] ∧ H p = some (valuesO p a) ∧ H a = some (.dT kvs) ∧ (∀ q ∈ kvs, ∃ i, q.2 = V.int i) ∧ ∀ k, Q (.int k) H
theorem cr_sumVals (hc : X.calm = true) : CallR X (.builtin "sum") rSumVals := by
  intro pins s σ H xs us Q I r h
  obtain ⟨p, a, kvs, rfl, hp, ha, hi, q⟩ := h
  obtain rfl := Vals.ref1 r
  have view : s.heap.IsValuesView p a := (show ObjOk X.prog X.w H s.heap p (valuesO p a) from I.hok p _ hp).1
  obtain ⟨z, hd, xs', rel, o, es, ep, ho, hx, hdat, hes, his, hn⟩ := dt_of I.hok ha
  have raw : s.heap.DictRaw a es ep := ⟨o, ho, hx, hdat⟩
  have vals : ∀ (i : Nat) (v : Value), (∃ hi : i < es.size, v = es[i].val) → ∃ (k : Int) (t : Tok), v = Value.int k t := by
    rintro i v ⟨hi2, rfl⟩
    have hes2 := entry_at hes i
    rw [Array.getElem?_eq_getElem hi2] at hes2
    cases hy : xs'[i]? with
    | none => rw [hy] at hes2; exact nomatch (show some es[i] = none from hes2)
    | some y =>
      rw [hy] at hes2
      have e : es[i] = entryOfKey (tupleKind (mixKind X.prog X.w)) y := Option.some.inj hes2
      obtain ⟨kv, hkv, r1, r2, r3⟩ := DX.pget rel hy
      obtain ⟨k, ek⟩ := hi kv (List.mem_of_getElem? hkv)
      rw [ek] at r3
      obtain ⟨t, et⟩ : ∃ t, y.2.2 = Value.int k t := r3
      exact ⟨k, t, by rw [e]; exact et⟩
  obtain ⟨val, hval⟩ : ∃ val : Nat → Int, ∀ (i : Nat) (v : Value), (∃ hi : i < es.size, v = es[i].val) → ∃ t : Tok, v = Value.int (val i) t := by
    have ex : ∀ i : Nat, ∃ k : Int, ∀ (v : Value), (∃ hi : i < es.size, v = es[i].val) → ∃ t : Tok, v = Value.int k t := fun i => by
      by_cases hi2 : i < es.size
      · obtain ⟨k, t, e⟩ := vals i es[i].val ⟨hi2, rfl⟩
        exact ⟨k, fun v ⟨_, e2⟩ => ⟨t, by rw [e2, e]⟩⟩
      · exact ⟨0, fun v ⟨h, _⟩ => absurd h hi2⟩
    exact ⟨fun i => (ex i).choose, fun i => (ex i).choose_spec⟩
  have K := PySem.KdlSrc.rawValues (prog := X.prog) (w := X.w) (r := p) (d := a) (es := es) (ep := ep)
  have hok : s.heap.IsValuesView p a ∧ s.heap.DictRaw a es ep := ⟨view, raw⟩
  refine call_sum_walkAnyS ?_
  obtain ⟨oI, St, hit, W, st⟩ := K.iter X.A.in1 s (I.ok.hd hc) hok
  refine hit _ _ ⟨s.heap.objs.size, _, _, _, es.size, _, _, val, rfl, W.toS, st, fun b hb => ?_, hval, fun s' t' hm => ?_⟩
  · show b < (s.heap.push oI).objs.size
    rw [size_push']
    rcases List.mem_cons.mp hb with e | hb
    · rw [e]; exact Nat.lt_succ_self _
    · rw [List.mem_singleton.mp hb]; exact Nat.lt_succ_of_lt (K.there _ hok).2
  · have hk : ∀ b o, s.heap.get? b = some o → s'.heap.get? b = some o := fun b o e =>
      hm.heap b o (fun hI => absurd (Heap.lt_size e) (by rw [List.mem_singleton.mp hI]; exact Nat.lt_irrefl _)) (Heap.get?_push_of_some _ e)
    rw [Moved.eq_with hm]
    exact ⟨.int _, H, I.kept (t' := s'.toks) hk, ⟨t', rfl⟩, q _⟩
end
end TW
/-! TWV: list(range(a, b, 2)); kept_at, choices_at. -/
namespace TW
open PySem PySem.Spec PyProof.Rows L2
theorem small2 {i j : Int} (h1 : -(2 ^ 30) ≤ i ∧ i < 2 ^ 30) (h2 : -(2 ^ 30) ≤ j ∧ j < 2 ^ 30) : Builtin.Range.small i j 2 = true := by
  unfold Builtin.Range.small
  unfold Builtin.Range.rangeSize
  simp only [Builtin.Range.rangeFitsLong, Bool.and_eq_true, Bool.or_eq_true, decide_eq_true_eq, beq_iff_eq, show (2 : Int) > 0 by decide, if_true]
  split <;> omega
def rg2 (i j : Int) : Nat := (Builtin.Range.rangeSize i j 2).toNat
theorem rg2_eq (i j : Int) : Builtin.Range.rangeSize i j 2 = (rg2 i j : Int) := by
  unfold rg2 Builtin.Range.rangeSize
  rw [if_pos (by decide)]
  split <;> omega
theorem rg2_le (i j : Int) (h : j - i ≤ 41) : rg2 i j ≤ 21 := by
  unfold rg2 Builtin.Range.rangeSize
  rw [if_pos (by decide)]
  split <;> omega
section
variable {X : Cx} {ρ : DEnv} {a b c : Expr} {p p2 q pos : Pos}
theorem rg_vals {i c : Int} {n : Nat} {acc : Array Value} (h : ItemsOf (fun k v => ∃ t, v = .int (i + k * c) t) acc n) : Vals (((List.range n).map fun (k : Nat) => i + k * c).map V.int) acc.toList := by
  have e : acc.toList.length = n := by rw [Array.length_toList]; exact h.1
  rw [List.map_map, ← e]
  refine vals_of_get acc.toList (V.int ∘ fun (k : Nat) => i + k * c) fun j u hj => ?_
  obtain ⟨t, rfl⟩ := h.2 j u (by rw [← hj, Array.getElem?_toList])
  exact ⟨t, rfl⟩
def tList3 (ta : TA) : TE := fun σ H Q => ta σ H fun vs H1 => ∃ (i j : Int), vs = [.int i, .int j, .int 2] ∧ (-(2 ^ 30) ≤ i ∧ i < 2 ^ 30) ∧ (-(2 ^ 30) ≤ j ∧ j < 2 ^ 30) ∧ rg2 i j ≤ 1000 ∧ ∀ d, H1 d = none → Q (.ref d) (upd H1 d (.lst (((List.range (rg2 i j)).map fun (k : Nat) => i + k * 2).map V.int)))
theorem pe_listRg2 {ta : TA} (hg : Gl X "list") (hm : X.mg "list" = none) (hg2 : Gl X "range") (hm2 : X.mg "range" = none) (ha : PA X [a, b, c] ta) (hc : X.calm = true := by rfl)
    (hs : starEach [a, b, c] X.env = (false, eval a X.env) :: starEach [b, c] X.env := by rfl) (hpl : (backTo q (starEach [b, c] X.env)).any (·.1) = false := by rfl)
    (na : starEach [.Call (.Name "range" p2) [a, b, c] [] q] X.env = (false, eval (.Call (.Name "range" p2) [a, b, c] [] q) X.env) :: starEach [] X.env := by rfl) :
    PE X (.Call (.Name "list" p) [.Call (.Name "range" p2) [a, b, c] [] q] [] pos) (tList3 ta) := by
  refine ⟨fun pins s σ H Q I h => ?_⟩
  refine Call_ (ld_blt I hg hm boot_list ?_)
  refine PyProof.Rows.callWith_type1 (PyProof.Rows.args_cons ?_ na) na rfl
  refine Call_ (ld_blt I hg2 hm2 boot_range ?_)
  refine PyProof.Rows.callWith_type1 (thn (ha.run q pins s σ H _ I h) fun us s1 ⟨vs, H1, I1, r1, q1⟩ => ?_) hs hpl
  obtain ⟨i, j, rfl, hi, hj, hsm, q1⟩ := q1
  cases r1 with
  | cons r rr =>
    cases rr with
    | cons r' rr =>
      cases rr with
      | cons r'' rr =>
        cases rr
        obtain ⟨t, rfl⟩ := r
        obtain ⟨t', rfl⟩ := r'
        obtain ⟨t'', rfl⟩ := r''
        refine call_range_3 (by decide) ?_ (.inl (PyProof.noPylong_small (by decide)))
        refine PyProof.Rows.args_nil ?_
        have I2 : Inv X pins σ H1 { s1 with heap := s1.heap.push { cls := .type "range", data := .fields #[.int i t, .int j t', .int 2 t''] } } := I1.kept (t' := s1.toks) fun b o e => Heap.get?_push_of_some _ e
        refine call_list_range (n := rg2 i j) (s := { s1 with heap := s1.heap.push { cls := .type "range", data := .fields #[.int i t, .int j t', .int 2 t''] }, toks := s1.toks }) (I.ok.hd hc) (IsRange.new ..) (small2 hi hj) (rg2_eq i j) (by omega) fun h' tk acc c' hk e' hit => ?_
        have rv := rg_vals hit
        have hl := rv.length
        rw [List.length_map, List.length_map, List.length_range] at hl
        refine ⟨.ref _, upd H1 _ (.lst (((List.range (rg2 i j)).map fun (k : Nat) => i + k * 2).map V.int)), I2.laid (t' := tk) hk (Nat.le_refl _) (show ObjOk X.prog X.w _ _ _ (.lst _) from ⟨by rw [List.length_map, List.length_map, List.length_range, sizeLine_eq]; omega, acc.toList, c', rv, by rw [Array.toArray_toList]; exact e'⟩), rfl, q1 _ (I2.hok.fresh (Nat.le_refl _))⟩
theorem de_listRg2 {i j : Int} (hm : X.mg "list" = none) (hm2 : X.mg "range" = none) (ha : De X a ρ (.int i)) (hb : De X b ρ (.int j)) (hc' : De X c ρ (.int 2)) (hi : -(2 ^ 30) ≤ i ∧ i < 2 ^ 30) (hj : -(2 ^ 30) ≤ j ∧ j < 2 ^ 30) (hsm : rg2 i j ≤ 1000) (hg : Gl X "list" := by rfl) (hg2 : Gl X "range" := by rfl) (hc : X.calm = true := by rfl)
    (hs : starEach [a, b, c] X.env = (false, eval a X.env) :: starEach [b, c] X.env := by rfl) (hs2 : starEach [b, c] X.env = (false, eval b X.env) :: starEach [c] X.env := by rfl) (hs3 : starEach [c] X.env = (false, eval c X.env) :: starEach [] X.env := by rfl) (hpl : (backTo q (starEach [b, c] X.env)).any (·.1) = false := by rfl)
    (na : starEach [.Call (.Name "range" p2) [a, b, c] [] q] X.env = (false, eval (.Call (.Name "range" p2) [a, b, c] [] q) X.env) :: starEach [] X.env := by rfl) :
    De X (.Call (.Name "list" p) [.Call (.Name "range" p2) [a, b, c] [] q] [] pos) ρ (dL ((List.range (rg2 i j)).map fun (k : Nat) => i + k * 2)) := by
  refine pe_wk (pe_listRg2 hg hm hg2 hm2 (das_cons ha (das_cons hb (das_cons hc' das_nil hs3) hs2) hs) hc hs hpl na) ?_
  rintro σ H Q ⟨G, s, en, k⟩
  refine ⟨G, s, en, fun vs ds G1 H1 n1 p1 d1 => ?_⟩
  subst p1
  obtain ⟨u, v, w, rfl, du, dv, dw⟩ := dp3 d1
  cases du; cases dv; cases dw
  refine ⟨i, j, rfl, hi, hj, hsm, fun d hd => ?_⟩
  have n := Nxt.new (o := .lst (((List.range (rg2 i j)).map fun (k : Nat) => i + k * 2).map V.int)) n1.s hd
  exact k _ _ _ _ (n1.trans n) rfl (.lst (.inl (.inl upd_same)) (dpAll_ints _))
end
section
variable {P : Program} {w : World} {K : PySem.W.Frag} {mg : Str → Option Value} {base : Heap} {f : Addr} {fd : FuncData}
def kept (hs : List (Nat × Nat)) (m : Nat) : List Nat := (List.range (m + 1)).filter fun k => !(nbr hs k).isEmpty && decide ((m : Int) < ((nbr hs k).getLastD 0 : Nat))
def fKept : List PyData → (PyData → Prop) → Prop := fun ds R => ∃ n hs m, ds = [dNear n hs, .int (m : Nat)] ∧ (WebOk n hs ∧ m < n) ∧ R (dNs (kept hs m))
theorem ok_kept_at (B : Bl mg) (F : Fun K "kept_at" "kept_at" s_kept_at f fd) : FnOk P w K mg base CX0 1 f fd p_kept_at (spD K fKept) := by
  refine fun_d F sc_kept_at (fun ds R h => ?_) fun cdv A outer s H E hr ds R h => ?_
  · obtain ⟨n, hs, m, rfl, _⟩ := h; rfl
  · obtain ⟨n, hs, m, rfl, ⟨hw, hm⟩, hR⟩ := h
    have h1 := hw.small
    refine db_eq (d := dNs (kept hs m)) ?_ hR
    exact db_ret (de_lcF (own := [("field", 2)]) (L := List.range (m + 1)) (enc := fun (k : Nat) => .int k) (q := fun k => (!(nbr hs k).isEmpty && decide ((m : Int) < ((nbr hs k).getLastD 0 : Nat)))) (f := fun (k : Nat) => .int k) rfl sc_kept_at.nd (blkOk_by (by kernel_rfl)) (di_range1 B.b_range (de_add (de_var 1 rfl) de_int) (by omega) (by omega)) (rng_nat (m + 1)) (fun _ _ _ _ _ => pg_name (i := 2) sc_kept_at.nd rfl (by first | exact Or.inl rfl | exact Or.inr rfl)) (fun _ _ => tgN 2) (sz6 (by rw [List.length_range]; omega)) (fun _ _ _ _ _ a ha => dt_eq (dt_w (dw_and (x := !(PyData.eqv (dNs (nbr hs a)) (.list []))) (dt_neD (hu64 hr) (de_ixL (de_var 0 rfl) (de_var 2 rfl) (near_at (by have := List.mem_range.mp ha; omega))) (de_lst das_nil) (sh_dNs _).shaped sh_nil.shaped) fun h => (dw_and1 (dt_gt (de_ixL (de_ixL (de_var 0 rfl) (de_var 2 rfl) (near_at (by have := List.mem_range.mp ha; omega))) (de_neg de_int) (at_last (by intro e; rw [eqv_nil, List.isEmpty_map, e] at h; cases h))) (de_var 1 rfl))))) (by rw [eqv_nil, List.isEmpty_map])) (fun _ _ _ _ _ a ha hp => de_var 2 rfl))
end
section
variable {X : Cx} {ρ : DEnv} {a b c : Expr} {pos : Pos} {x : Bool} {R : PyData → Prop}
theorem de_ifR (hc : Dt X c ρ x) (h1 : x = true → DeR X a ρ R) (h2 : x = false → DeR X b ρ R) : DeR X (.IfExp c a b pos) ρ R := by
  cases x with
  | true =>
    have hv : PE X b (fun _ _ _ => False) := ⟨fun _ _ _ _ _ _ h => h.elim⟩
    refine pe_wk (pe_ifExp hc (h1 rfl) hv) ?_
    rintro σ H Q ⟨G, s, en, q⟩
    refine ⟨G, s, en, fun G1 H1 n1 => ?_⟩
    refine iteT ?_
    exact ⟨G1, n1.s, en.mono n1.g, fun v d G2 H2 n2 p2 d2 => q v d G2 H2 (n1.trans n2) p2 d2⟩
  | false =>
    have hv : PE X a (fun _ _ _ => False) := ⟨fun _ _ _ _ _ _ h => h.elim⟩
    refine pe_wk (pe_ifExp hc hv (h2 rfl)) ?_
    rintro σ H Q ⟨G, s, en, q⟩
    refine ⟨G, s, en, fun G1 H1 n1 => ?_⟩
    refine iteF ?_
    exact ⟨G1, n1.s, en.mono n1.g, fun v d G2 H2 n2 p2 d2 => q v d G2 H2 (n1.trans n2) p2 d2⟩
end
section
variable {P : Program} {w : World} {K : PySem.W.Frag} {mg : Str → Option Value} {base : Heap} {f : Addr} {fd : FuncData}
def spCh (K : PySem.W.Frag) : Sp := fun vs H Q _ => ∃ (G : Hp) (n : Nat) (hs : List (Nat × Nat)) (f : Nat) (x y : List Int) (d : Addr) (kvs : List (L2.Key × V)) (nv lv hv : V), vs = [nv, .int f, .ref d, lv, hv] ∧ Same G H ∧ Dp K G nv (dNear n hs) ∧ Dp K G lv (dTs x) ∧ Dp K G hv (dTs y) ∧
  (WebOk n hs ∧ x.length = n ∧ y.length = n ∧ f < n ∧ (-2000000 ≤ x.getD f 0 ∧ x.getD f 0 ≤ 2000000) ∧ (-2000000 ≤ y.getD f 0 ∧ y.getD f 0 ≤ 2000000) ∧ y.getD f 0 - x.getD f 0 ≤ 40) ∧ G d = none ∧ H d = some (.dK kvs) ∧ (∀ g, Adj hs f g → g < f → ∃ i, valV kvs (Sum.inl (g : Int) : L2.Key) = some (.int i)) ∧
  ∀ v ns G' H', Nxt G H G' H' → ns.length ≤ 21 → Dp K G' v (dL ns) → Q v H'
def Got (d : PyData) : Prop := d = .none ∨ ∃ ns : List Int, ns.length ≤ 21 ∧ d = dL ns
theorem filter_le {α : Type} {p : α → Bool} {l : List α} {k : Nat} (h : l.length ≤ k) : (l.filter p).length ≤ k := Nat.le_trans (List.length_filter_le ..) h
theorem dpAll5 {G : Hp} {xs : List V} {a b c d e : PyData} (h : DpAll K G xs [a, b, c, d, e]) : ∃ u v w x y, xs = [u, v, w, x, y] ∧ Dp K G u a ∧ Dp K G v b ∧ Dp K G w c ∧ Dp K G x d ∧ Dp K G y e := by
  cases h with
  | cons h1 h => cases h with
    | cons h2 h => cases h with
      | cons h3 h => cases h with
        | cons h4 h => cases h with
          | cons h5 h => cases h; exact ⟨_, _, _, _, _, rfl, h1, h2, h3, h4, h5⟩
theorem ok_choices_at (B : Bl mg) (F : Fun K "choices_at" "choices_at" s_choices_at f fd) : FnOk P w K mg base CX0 1 f fd p_choices_at (spCh K) := by
  refine F.ok sc_choices_at (fun vs H Q E h => ?_) (fun cdv A outer s H vs Q E hr h => ?_)
  · obtain ⟨G, n, hs, g, x, y, d, kvs, nv, lv, hv, rfl, _⟩ := h; rfl
  · obtain ⟨G, n, hs, g, x, y, d, kvs, nv, lv, hv, rfl, sG, dn, dl, dh, ⟨hw, hxl, hyl, hg, hxb, hyb, hxy⟩, gd, hd, hhas, q⟩ := h
    have hnd := sc_choices_at.nd
    have hu := hr.units
    have hu1 : (A.deeper (envOfC "choices_at" (defScope s_choices_at) s.heap.objs.size f cdv)).units + 1 < cLine := by omega
    refine ⟨_, pss_cons (ps_set (i := 5) hnd rfl (.inl rfl) pe_non)
      (pss_cons (ps_for PassesOwn.never rfl (di_listE (ρ := [some (dNear n hs), some (.int g), none, some (dTs x), some (dTs y), none, none, none, none]) (ds := (nbr hs g).map fun (k : Nat) => .int k) (de_ixL (de_var 0 rfl) (de_var 1 rfl) (near_at hg))) (pg_name (i := 6) hnd rfl (.inl rfl))
        (pss_ex (A := fun u : Nat × PyData => Adj hs g u.1 ∧ Got u.2) fun u hu' => pss_one (ps_if (dt_lt (ρ := [some (dNear n hs), some (.int g), none, some (dTs x), some (dTs y), none, some (.int u.1), none, none]) (i := u.1) (j := g) (de_var 6 rfl) (de_var 1 rfl))
          (pss_cons (ps_set (i := 7) hnd rfl (.inr rfl) (pe_lst (pa_cons (pe_op op_sub (pe_dget hu1 (pv 2) (pv 6) (by exact fun _ _ => rfl)) pe_int) (pa_cons (pe_op op_add (pe_dget hu1 (pv 2) (pv 6) (by exact fun _ _ => rfl)) pe_int) pa_nil))))
            (pss_ex (A := fun ab : Int × Int => True) fun ab _ => pss_one (ps_set (i := 5) hnd rfl (.inl rfl)
              (show DeR _ _ [none, none, none, none, none, some u.2, none, some (dL [ab.1, ab.2]), none] (fun d => ∃ ns : List Int, ns.length ≤ 21 ∧ d = dL ns) from by
                obtain ⟨u1, u2⟩ := u
                rcases hu'.2 with rfl | ⟨ns, hns, rfl⟩
                · exact de_ifR (dt_isN (de_var 5 rfl)) (fun _ => de_imp (de_var 7 rfl) fun d e => ⟨_, by show 2 ≤ 21; decide, e⟩) (fun h => by cases h)
                · exact de_ifR (dt_isN (de_var 5 rfl)) (fun h => by cases h) (fun _ => de_imp (de_lcF (own := [("height", 8)]) (L := ns) (enc := .int) (q := fun v => ([ab.1, ab.2].map PyData.int).any fun z => PyData.eqv z (.int v)) (f := .int) rfl hnd (blkOk_by (by kernel_rfl)) (di_listE (de_var 5 rfl)) rfl (fun _ _ _ _ _ => pg_name (i := 8) hnd rfl (by first | exact Or.inl rfl | exact Or.inr rfl)) (fun _ _ => tgN 8) (sz6 (by omega)) (fun _ _ _ _ _ a ha => dt_in (hu65 hr) (de_var 8 rfl) (de_var 7 rfl) sh_int.shaped (sh_dL _).shaped) (fun _ _ _ _ _ a ha hp => de_var 8 rfl)) fun d e => ⟨_, filter_le hns, e⟩)))))
          pss_nil)))
        (pss_ex (A := Got) fun d5 h5 => (show Db _ _ [some (dNear n hs), some (.int g), none, some (dTs x), some (dTs y), some d5, none, none, none] (fun d => ∃ ns : List Int, ns.length ≤ 21 ∧ d = dL ns) from by
          have fin : ∀ ns : List Int, ns.length ≤ 21 → (fun d => ∃ ns : List Int, ns.length ≤ 21 ∧ d = dL ns) (dL (ns.filter fun v => decide (x.getD g 0 ≤ v) && decide (v ≤ y.getD g 0))) := fun ns h => ⟨_, filter_le h, rfl⟩
          refine db_if2 (S1 := fun ρ' => ∃ ns : List Int, ns.length ≤ 21 ∧ ρ' = [some (dNear n hs), some (.int g), none, some (dTs x), some (dTs y), some (dL ns), none, none, none]) (dt_isN (d := d5) (de_var 5 rfl)) (fun hb => ?_) (fun hb => ?_) ?_
          · exact dk_setE 5 hnd (de_listRg2 B.b_list B.b_range (de_ixT (de_var 3 rfl) (de_var 1 rfl) (getI (by omega))) (de_add (de_ixT (de_var 4 rfl) (de_var 1 rfl) (getI (by omega))) de_int) de_int (by omega) (by omega) (Nat.le_trans (rg2_le _ _ (by omega)) (by decide))) (dk_nil ⟨_, by rw [List.length_map, List.length_range]; exact rg2_le _ _ (by omega), rfl⟩)
          · rcases h5 with rfl | ⟨ns, hns, rfl⟩
            · cases hb
            · exact dk_nil ⟨ns, hns, rfl⟩
          · rintro ρ' ⟨ns, hns, rfl⟩
            exact db_imp (db_ret (de_lcF (own := [("height", 8)]) (L := ns) (enc := .int) (q := fun v => decide (x.getD g 0 ≤ v) && decide (v ≤ y.getD g 0)) (f := .int) rfl hnd (blkOk_by (by kernel_rfl)) (di_listE (de_var 5 rfl)) rfl (fun _ _ _ _ _ => pg_name (i := 8) hnd rfl (by first | exact Or.inl rfl | exact Or.inr rfl)) (fun _ _ => tgN 8) (sz6 (by omega)) (fun _ _ _ _ _ a ha => dt_chain (de_ixT (de_var 3 rfl) (de_var 1 rfl) (getI (by omega))) (de_var 8 rfl) (de_ixT (de_var 4 rfl) (de_var 1 rfl) (getI (by omega)))) (fun _ _ _ _ _ a ha hp => de_var 8 rfl))) fun d e => by subst e; exact fin ns hns))), ?_⟩
    refine q_seq (q_set ?_)
    unfold tC
    dsimp only
    refine q_seq ?_
    refine t_for (K := K) sG (ρ := [some (dNear n hs), some (.int g), none, some (dTs x), some (dTs y), none, none, none, none]) ?_ (fun ds i σ3 G3 H3 => ∃ (o5 : V) (d5 : PyData) (y6 y7 y8 : Option V), Got d5 ∧ Dp K G3 o5 d5 ∧ σ3 = [some nv, some (.int g), some (.ref d), some lv, some hv, some o5, y6, y7, y8] ∧ Nxt G H G3 H3 ∧ G3 d = none ∧ H3 d = some (.dK kvs)) ?_ ?_ ?_ ?_
    · exact evS dn (evS (.int _) (evN (evS dl (evS dh (evN (evN (evN (evN ev0))))))))
    · rintro ds G3 H3 _ n3
      have a1 := n3.stay hd gd trivial
      exact ⟨.non, .none, none, none, none, .inl rfl, .non, rfl, n3, a1.2, a1.1⟩
    · rintro ds i σ3 G3 H3 G4 H4 _ ⟨o5, d5, y6, y7, y8, h5, p5, rfl, nx, gd3, hd3⟩ n3
      have a1 := n3.stay hd3 gd3 trivial
      exact ⟨o5, d5, y6, y7, y8, h5, dp_mono n3.g p5, rfl, nx.trans n3, a1.2, a1.1⟩
    · rintro ds i dd xv σ3 G3 H3 rfl hdd ⟨o5, d5, y6, y7, y8, h5, p5, rfl, nx, gd3, hd3⟩ g3 s3 dxv N2 hN2
      rw [List.getElem?_map] at hdd
      cases hz : (nbr hs g)[i]? with
      | none => rw [hz] at hdd; cases hdd
      | some u =>
        rw [hz] at hdd
        have e5 : PyData.int (u : Nat) = dd := Option.some.inj hdd
        subst e5
        cases dxv
        have hadj := mem_nbr.mp (List.mem_of_getElem? hz)
        refine ⟨(u, d5), ⟨hadj, h5⟩, ?_⟩
        refine ⟨G3, s3, evS (dp_mono nx.g dn) (evS (.int _) (evN (evS (dp_mono nx.g dl) (evS (dp_mono nx.g dh) (evN (evS (.int _) (evN (evN ev0)))))))), fun G4 H4 n4 => ?_⟩
        have a1 := n4.stay hd3 gd3 trivial
        have nx4 := nx.trans n4
        by_cases hlt : (u : Int) < (g : Int)
        · rw [decide_eq_true hlt]
          refine iteT ?_
          obtain ⟨iv, hiv⟩ := hhas u hadj (by omega)
          refine q_seq (q_set ?_)
          have gt : DGet H4 d (kV (Sum.inl (u : Int))) (some (.int iv)) := by rw [← hiv]; exact DGet.k a1.1
          refine ⟨.ref d, rfl, .int u, rfl, d, .int iv, rfl, gt, ?_⟩
          refine ⟨iv, 1, rfl, rfl, .ref d, rfl, .int u, rfl, d, .int iv, rfl, gt, iv, 1, rfl, rfl, (show 2 ≤ sizeLine by decide), fun l hl => ?_⟩
          dsimp only
          refine ⟨(iv - 1, iv + 1), trivial, ?_⟩
          have n5 := Nxt.new (o := .lst [V.int (iv - 1), V.int (iv + 1)]) n4.s hl
          have nx5 := nx4.trans n5
          have a2 := n5.stay a1.1 a1.2 trivial
          refine q_set ⟨_, n5.s, evN (evN (evN (evN (evN (evS (dp_mono (n4.trans n5).g p5) (evN (evS (.lst (.inl (.inl upd_same)) (dpAll_ints [iv - 1, iv + 1])) (evN ev0)))))))), fun v dv G6 H6 n6 pv dpv => ?_⟩
          have a3 := n6.stay a2.1 a2.2 trivial
          exact hN2 _ G6 H6 ((n4.trans n5).trans n6).g n6.s ⟨v, dv, _, _, _, .inr pv, dpv, rfl, nx5.trans n6, a3.2, a3.1⟩
        · rw [decide_eq_false hlt]
          refine iteF ?_
          exact hN2 _ G4 H4 n4.g n4.s ⟨o5, d5, _, _, _, h5, dp_mono n4.g p5, rfl, nx4, a1.2, a1.1⟩
    · rintro ds σ3 G3 H3 rfl ⟨o5, d5, y6, y7, y8, h5, p5, rfl, nx, gd3, hd3⟩ g3 s3
      refine ⟨d5, h5, G3, s3, evS (dp_mono nx.g dn) (evS (.int _) (evN (evS (dp_mono nx.g dl) (evS (dp_mono nx.g dh) (evS p5 (evN (evN (evN ev0)))))))), fun v dv G4 H4 n4 pv dpv => ?_⟩
      obtain ⟨ns, hns, rfl⟩ := pv
      exact q v ns G4 H4 (nx.trans n4) hns dpv
end
end TW
/-! TWB: what tables_of stands on. -/
namespace TW
open PySem PySem.Spec PyProof.Rows L2
section
variable {X : Cx} {e : Expr} {es : List Expr} {t : TA} {sp : Sp} {x : Str} {k j : Nat} {ps : List Str} {pos p : Pos}
theorem pe_callRaw (C : Cal X.prog X.w X.K X.mg X.base k x ps sp) (hr : Room j X.A) (hk : k ≤ j) (ha : PA X (e :: es) t) (hg : Gl X x := by rfl) (hdb : (x == ("__debug__" : Str)) = false := by decide) (he : starEach (e :: es) X.env = (false, eval e X.env) :: starEach es X.env := by rfl) (hpl : (backTo pos (starEach es X.env)).any (·.1) = false := by rfl) :
    PE X (.Call (.Name x p) (e :: es) [] pos) (fun σ H Q => t σ H fun vs H1 => sp vs H1 Q E0) := by
  obtain ⟨g, fd, F, hm, hkp, hb⟩ := C
  refine pe_wk (pe_call F (hr.mono hk) hg hm hkp hb .nil pass0 ha hdb he hpl) fun σ H Q h => ?_
  show t σ H fun vs H1 => sp (vs ++ []) H1 Q E0
  simpa using h
end
/-- a for over what is told at run time -/
theorem t_forJ {K : PySem.W.Frag} {J : It} {ds : List PyData} {g : TG} {tb : TS} {D : Ends} {σ : L2.St} {G1 H1 : Hp} (it : IsIt K J G1 ds) (sG : Same G1 H1) (Iv : Nat → L2.St → Hp → Hp → Prop)
    (h0 : Iv 0 σ G1 H1)
    (hN : ∀ i σ2 G2 H2 G3 H3, Iv i σ2 G2 H2 → Nxt G2 H2 G3 H3 → Iv i σ2 G3 H3)
    (hs : ∀ (i : Nat) d x σ2 G2 H2, ds[i]? = some d → Iv i σ2 G2 H2 → Same G1 G2 → Same G2 H2 → Dp K G2 x d → ∀ N : L2.St → Hp → Prop, (∀ σ4 G4 H4, Same G2 G4 → Same G4 H4 → Iv (i + 1) σ4 G4 H4 → N σ4 H4) →
      g x σ2 H2 fun σ3 H3 => tb { D with nx := N, ct := N, bk := D.nx } σ3 H3)
    (hd : ∀ σ2 G2 H2, Iv ds.length σ2 G2 H2 → Same G1 G2 → Same G2 H2 → D.nx σ2 H2) :
    ∃ W : Nat → Nat → L2.St → Hp → Prop, (∃ m, W 0 m σ H1) ∧ ∀ i m σ H, W i m σ H →
      (J.stop i H ∧ D.nx σ H) ∨ (J.go i H ∧ ∃ N : L2.St → Hp → Prop, (∀ σ' H', N σ' H' → ∃ m', m' < m ∧ W (i + 1) m' σ' H') ∧ ∀ x H', J.yld i H x H' → g x σ H' fun σ2 H2 => tb { D with nx := N, ct := N, bk := D.nx } σ2 H2) := by
  unfold IsIt at it
  refine ⟨fun i m σ2 H2 => m = ds.length - i ∧ i ≤ ds.length ∧ ∃ G2, Same G1 G2 ∧ Same G2 H2 ∧ Iv i σ2 G2 H2, ⟨ds.length, by simp, Nat.zero_le _, G1, Same.refl _, sG, h0⟩, ?_⟩
  rintro i m σ2 H2 ⟨rfl, hi, G2, g2, s2, iv⟩
  by_cases hlt : i < ds.length
  · refine .inr ⟨it.goes i H2 hlt (g2.trans s2), fun σ4 H4 => ∃ G4, Same G1 G4 ∧ Same G4 H4 ∧ Iv (i + 1) σ4 G4 H4, fun σ' H' p' => ⟨ds.length - (i + 1), by omega, rfl, hlt, p'⟩, fun x H' y => ?_⟩
    obtain ⟨d, hdi, hy⟩ := it.yields i H2 x H' hlt (g2.trans s2) y
    obtain ⟨G3, n3, dx⟩ := hy G2 g2 s2
    exact hs i d x σ2 G3 H' hdi (hN i σ2 G2 H2 G3 H' iv n3) (g2.trans n3.g) n3.s dx _ fun σ4 G4 H4 a b c => ⟨G4, (g2.trans n3.g).trans a, b, c⟩
  · have e : i = ds.length := by omega
    subst e
    exact .inl ⟨it.stops H2 (g2.trans s2), hd σ2 G2 H2 iv g2 s2⟩

/-! ### dicts of ints -/
/-- at k stands an int -/
def HasI (kvs : List (L2.Key × V)) (k : Nat) : Prop := ∃ i, valV kvs (Sum.inl (k : Int) : L2.Key) = some (V.int i)
theorem HasI.put {kvs : List (L2.Key × V)} {k j : Nat} {i : Int} (h : HasI kvs k) : HasI (putK kvs (Sum.inl (j : Int) : L2.Key) (V.int i)) k := by
  obtain ⟨v, hv⟩ := h
  unfold HasI
  rw [valV_put]
  by_cases e : (Sum.inl (k : Int) : L2.Key) = Sum.inl (j : Int)
  · exact ⟨i, by rw [if_pos e]⟩
  · exact ⟨v, by rw [if_neg e]; exact hv⟩
theorem HasI.here {kvs : List (L2.Key × V)} {j : Nat} {i : Int} : HasI (putK kvs (Sum.inl (j : Int) : L2.Key) (V.int i)) j := ⟨i, by rw [valV_put, if_pos rfl]⟩
theorem putK_len {κ : Type} [DecidableEq κ] (kvs : List (κ × V)) (k : κ) (v : V) : (putK kvs k v).length ≤ kvs.length + 1 := by
  unfold putK
  split
  · rw [List.length_map]; omega
  · rw [List.length_append]; simp
/-- tuples of m ints as keys, ints as values -/
def Tab (m : Nat) (kvs : List (List L2.Key × V)) : Prop := ∀ p ∈ kvs, (∃ ks : List Int, p.1 = iK ks ∧ ks.length = m) ∧ ∃ i, p.2 = V.int i
theorem mem_putK {κ : Type} [DecidableEq κ] {kvs : List (κ × V)} {k : κ} {v : V} {p : κ × V} (h : p ∈ putK kvs k v) : p ∈ kvs ∨ p = (k, v) := by
  unfold putK at h
  split at h
  · obtain ⟨q, hq, e⟩ := List.mem_map.mp h
    by_cases c : q.1 = k
    · rw [if_pos c, c] at e; exact .inr e.symm
    · rw [if_neg c] at e; exact .inl (e ▸ hq)
  · rcases List.mem_append.mp h with h | h
    · exact .inl h
    · exact .inr (by simpa using h)
theorem Tab.put {m : Nat} {kvs : List (List L2.Key × V)} (T : Tab m kvs) {ks : List Int} (hk : ks.length = m) (i : Int) : Tab m (putK kvs (iK ks) (V.int i)) := fun p hp => by
  rcases mem_putK hp with h | rfl
  · exact T p h
  · exact ⟨⟨ks, rfl, hk⟩, i, rfl⟩
theorem Tab.get {m : Nat} {kvs : List (List L2.Key × V)} (T : Tab m kvs) (k : List L2.Key) : ∃ i, (valV kvs k).getD (V.int 0) = V.int i := by
  cases h : valV kvs k with
  | none => exact ⟨0, rfl⟩
  | some v =>
    unfold valV at h
    cases hf : kvs.find? (fun kv => decide (kv.1 = k)) with
    | none => rw [hf] at h; cases h
    | some p =>
      rw [hf] at h
      have : p.2 = v := Option.some.inj h
      obtain ⟨i, e⟩ := (T p (List.mem_of_find?_eq_some hf)).2
      exact ⟨i, by rw [← this, e]; rfl⟩
theorem Tab.one {kvs : List (List L2.Key × V)} (T : Tab 0 kvs) (hl : kvs.length ≤ 1) (v : V) : (putK kvs (iK []) v).length ≤ 1 := by
  cases kvs with
  | nil => show (putK [] (iK []) v).length ≤ 1; exact Nat.le_refl _
  | cons p r =>
    have hr : r = [] := by cases r with | nil => rfl | cons => simp at hl
    subst hr
    obtain ⟨⟨ks, e, hk⟩, _⟩ := T p (by simp)
    have : ks = [] := List.length_eq_zero_iff.mp hk
    subst this
    unfold putK
    rw [if_pos (by simp [e])]
    simp

/-! ### the fields that are kept -/
theorem last_ge : ∀ {l : List Nat} {f : Nat}, l.Pairwise (· ≤ ·) → f ∈ l → f ≤ l.getLastD 0
  | [], _, _, h => by cases h
  | [a], f, _, h => by
    have : f = a := by simpa using h
    rw [this]; exact Nat.le_refl _
  | a :: b :: r, f, p, h => by
    have ih := fun g hg => last_ge (l := b :: r) (f := g) (List.pairwise_cons.mp p).2 hg
    have e : (a :: b :: r).getLastD 0 = (b :: r).getLastD 0 := by simp [List.getLastD]
    rw [e]
    rcases List.mem_cons.mp h with rfl | h
    · exact Nat.le_trans ((List.pairwise_cons.mp p).1 b List.mem_cons_self) (ih b List.mem_cons_self)
    · exact ih f h
theorem last_mem : ∀ {l : List Nat}, l ≠ [] → l.getLastD 0 ∈ l
  | [], h => absurd rfl h
  | [a], _ => by simp [List.getLastD]
  | a :: b :: r, _ => by
    have e : (a :: b :: r).getLastD 0 = (b :: r).getLastD 0 := by simp [List.getLastD]
    rw [e]
    exact List.mem_cons_of_mem _ (last_mem (by simp))
section
variable {n : Nat} {hs : List (Nat × Nat)} {m f g : Nat}
theorem mem_kept : g ∈ kept hs m ↔ g ≤ m ∧ nbr hs g ≠ [] ∧ m < (nbr hs g).getLastD 0 := by
  unfold kept
  rw [List.mem_filter, List.mem_range]
  rw [Bool.and_eq_true, Bool.not_eq_true', List.isEmpty_eq_false_iff, decide_eq_true_eq]
  constructor
  · rintro ⟨a, b, c⟩; exact ⟨by omega, b, by omega⟩
  · rintro ⟨a, b, c⟩; exact ⟨by omega, b, by omega⟩
/-- the fields kept ahead of f -/
def ahd (hs : List (Nat × Nat)) : Nat → List Nat
  | 0 => []
  | f + 1 => kept hs f
theorem ahd_has (h : Adj hs f g) (hlt : g < f) : g ∈ ahd hs f := by
  cases f with
  | zero => omega
  | succ f =>
    have m : (f + 1) ∈ nbr hs g := mem_nbr.mpr h.symm
    have := last_ge (nbr_sorted hs g) m
    exact mem_kept.mpr ⟨by omega, List.ne_nil_of_mem m, by omega⟩
theorem kept_sub (h : g ∈ kept hs f) : g = f ∨ g ∈ ahd hs f := by
  obtain ⟨a, b, c⟩ := mem_kept.mp h
  cases f with
  | zero => exact .inl (by omega)
  | succ f =>
    by_cases e : g = f + 1
    · exact .inl e
    · exact .inr (mem_kept.mpr ⟨by omega, b, by omega⟩)
theorem kept_last (W : WebOk n hs) : kept hs (n - 1) = [] := by
  refine List.eq_nil_iff_forall_not_mem.mpr fun g hg => ?_
  obtain ⟨a, b, c⟩ := mem_kept.mp hg
  have := (W.adj (mem_nbr.mp (last_mem b))).2
  omega
theorem kept_len : (kept hs m).length ≤ m + 1 := by
  unfold kept
  refine Nat.le_trans (List.length_filter_le ..) ?_
  rw [List.length_range]; exact Nat.le_refl _
theorem ahd_len (f : Nat) : (ahd hs f).length ≤ f := by
  cases f with
  | zero => exact Nat.le_refl _
  | succ f => exact kept_len
end

/-! ### [here[one] for one in keep] -/
theorem t_lcGet {K : PySem.W.Frag} {ρ : DEnv} {ds i : Nat} {d : Addr} {kvs : List (L2.Key × V)} {ks : List Nat} {σ : L2.St} {G H : Hp} {Q : VK} (hne : ds ≠ i) (hi : i < σ.length) (sG : Same G H) (en : EnvD K G σ ρ) (hσ : σ[ds]? = some (some (.ref d))) (gd : G d = none) (hd : H d = some (.dK kvs)) (hk : ∀ k ∈ ks, HasI kvs k) (hl : ks.length ≤ 1000)
    (q : ∀ v ns G' H', Nxt G H G' H' → ns.length = ks.length → Dp K G' v (dL ns) → Q v H') :
    tLc (tI K ρ (fun es => es = ks.map fun (k : Nat) => PyData.int k)) (gName i) tYes (tDGet (tVar ds) (tVar i)) [i] σ H Q := by
  refine ⟨G, sG, en, fun J es G1 H1 n1 pd it D hD => ?_⟩
  subst pd
  have hlen : (ks.map fun (k : Nat) => PyData.int k).length = ks.length := List.length_map ..
  unfold IsIt at it
  rw [hlen] at it
  have hd1 := n1.stay hd gd trivial
  have hDd : D ≠ d := fun e => by rw [e, hd1.1] at hD; cases hD
  refine lc_it (g := gName i) (tt := tYes) (te := tDGet (tVar ds) (tVar i)) (vs := [i]) (σ := σ) (H1 := H1) (D := D) (Qd := Q (.ref D)) it (fun j H2 => ∃ (G2 : Hp) (ns : List Int), Nxt G1 H1 G2 H2 ∧ H2 D = some (.lst (ns.map V.int)) ∧ G2 D = none ∧ ns.length = j ∧ H2 d = some (.dK kvs) ∧ G2 d = none) ?_ (fun j H2 _ ⟨G2, ns, n2, _⟩ => n2.g.trans n2.s) (fun j x H2 H3 hj ⟨G2, ns, n2, hacc, hGD, hns, hd2, gd2⟩ y => ?_) (fun H2 ⟨G2, ns, n2, hacc, hGD, hns, hd2, gd2⟩ => ?_)
  · exact ⟨G1, [], Nxt.new0 n1.s hD, upd_same, n1.s.free hD, rfl, by rw [upd_ne (Ne.symm hDd)]; exact hd1.1, hd1.2⟩
  · obtain ⟨dd, hdd, hy⟩ := y
    rw [List.getElem?_map] at hdd
    have hLi : ks[j]? = some ks[j] := List.getElem?_eq_getElem hj
    rw [hLi] at hdd
    have ed : PyData.int (ks[j] : Nat) = dd := Option.some.inj hdd
    subst ed
    obtain ⟨G3, n3, dx⟩ := hy G2 n2.g n2.s
    cases dx
    have a1 := n3.stay hacc hGD trivial
    have a2 := n3.stay hd2 gd2 trivial
    have n13 := n2.trans n3
    refine ⟨wipe_set_mem List.mem_cons_self |>.trans (wipe_wipe fun _ h => h), ?_⟩
    unfold tYes
    refine iteT ?_
    obtain ⟨v, hv⟩ := hk ks[j] (List.getElem_mem hj)
    have s1 : ((wipe σ [i]).set i (some (.int (ks[j] : Nat))))[ds]? = some (some (.ref d)) := by
      rw [List.getElem?_set_ne (Ne.symm hne)]
      show (σ.set i none)[ds]? = _
      rw [List.getElem?_set_ne (Ne.symm hne)]; exact hσ
    have s2 : ((wipe σ [i]).set i (some (.int (ks[j] : Nat))))[i]? = some (some (.int (ks[j] : Nat))) := List.getElem?_set_self (by show i < (σ.set i none).length; rw [List.length_set]; exact hi)
    have gt : DGet H3 d (kV (Sum.inl ((ks[j] : Nat) : Int))) (some (.int v)) := by rw [← hv]; exact DGet.k a2.1
    refine ⟨.ref d, s1, .int (ks[j] : Nat), s2, d, .int v, rfl, gt, ns.map V.int, a1.1, by rw [List.length_map, hns, sizeLine_eq]; omega, G3, ns ++ [v], ⟨fun b o e => ?_, n13.g, same_upd2 n13.s a1.2, n13.f⟩, by rw [upd_same, List.map_append]; rfl, a1.2, by rw [List.length_append, hns]; rfl, by rw [upd_ne (Ne.symm hDd)]; exact a2.1, a2.2⟩
    rw [upd_ne (ne_of_none e hD)]
    exact n13.h b o e
  · have n3 := Nxt.take n2.s hacc hGD hD n2
    exact q _ ns _ _ (n1.trans n3) (by rw [hns]) (.lst (.inl (.inl upd_same)) (dpAll_ints ns))
end TW
/-! TWU: tables_of, number_within, count_within. -/
namespace TW
open PySem PySem.Spec PyProof.Rows L2
section
variable {P : Program} {w : World} {K : PySem.W.Frag} {mg : Str → Option Value} {base : Heap} {f : Addr} {fd : FuncData}
structure Thin (n : Nat) (x y : List Int) : Prop where
  lx : x.length = n
  ly : y.length = n
  bx : ∀ f, f < n → -2000000 ≤ x.getD f 0 ∧ x.getD f 0 ≤ 2000000
  by_ : ∀ f, f < n → -2000000 ≤ y.getD f 0 ∧ y.getD f 0 ≤ 2000000
  d : ∀ f, f < n → y.getD f 0 - x.getD f 0 ≤ 40
theorem dNs_ints (m : List Nat) : dNs m = .list ((m.map fun (k : Nat) => (k : Int)).map .int) := by rw [List.map_map]; rfl
theorem walk_itemsT {N : Addr} {od : Obj} {kvs : List (List L2.Key × V)} : Walk (ItiT N od kvs) kvs.length (fun H => H N = some (.frz od (.dT kvs))) (fun i H x H' => ∃ T q k v, x = .ref T ∧ kvs[i]? = some (k, v) ∧ H q = some (.tup (k.map kV)) ∧ H T = none ∧ H' = upd H T (.tup [.ref q, v])) :=
  ⟨fun i H h1 h2 => ⟨h2, h1⟩, fun H h => ⟨h, Nat.le_refl _⟩, fun i H x H' _ _ y => y⟩
def spTab (K : PySem.W.Frag) : Sp := fun vs H Q _ => ∃ (G : Hp) (n : Nat) (hs : List (Nat × Nat)) (x y : List Int) (wv lv hv : V), vs = [wv, lv, hv] ∧ Same G H ∧ Dp K G wv (dWeb n hs) ∧ Dp K G lv (dTs x) ∧ Dp K G hv (dTs y) ∧ (WebOk n hs ∧ Thin n x y) ∧
  ∀ (F : Addr) (ts : List V) (N : Addr) (kvs : List (List L2.Key × V)) (m : Nat) (G' H' : Hp), Nxt G H G' H' → H' F = some (.lst (ts ++ [.ref N])) → G' F = none → H' N = some (.dT kvs) → G' N = none → Tab m kvs → Q (.ref F) H'
theorem ok_tables_of (B : Bl mg) (C_nears_of : Cal P w K mg base 1 "nears_of" p_nears_of (spD K fNears)) (C_kept_at : Cal P w K mg base 1 "kept_at" p_kept_at (spD K fKept)) (C_choices_at : Cal P w K mg base 1 "choices_at" p_choices_at (spCh K)) (F : Fun K "tables_of" "tables_of" s_tables_of f fd) : FnOk P w K mg base CX0 2 f fd p_tables_of (spTab K) := by
  refine F.ok sc_tables_of (fun vs H Q E h => ?_) (fun cdv A outer s H vs Q E hr h => ?_)
  · obtain ⟨G, n, hs, x, y, wv, lv, hv, rfl, _⟩ := h; rfl
  · obtain ⟨G, n, hs, x, y, wv, lv, hv, rfl, sG, dw, dl, dh, ⟨hw, th⟩, q⟩ := h
    have hnd := sc_tables_of.nd
    have hu := hr.units
    have hn6 := hw.small
    have hu1 : (A.deeper (envOfC "tables_of" (defScope s_tables_of) s.heap.objs.size f cdv)).units + 1 < cLine := by omega
    refine ⟨_, pss_cons (ps_par3 (i := 3) (j := 4) (l := 5) rfl hnd rfl rfl rfl (by decide) (by decide) (by decide) rfl rfl rfl (pa_cons (de_callC (ρ := [some (dWeb n hs), some (dTs x), some (dTs y), none, none, none, none, none, none, none, none, none, none, none, none, none]) (R := fun d => d = dNear n hs) C_nears_of hr (by decide) (das_cons (de_var 0 rfl) das_nil) ⟨n, hs, rfl, hw.r, rfl⟩) (pa_cons (pe_lst pa_nil) (pa_cons (pe_dispT hu1 (pe_tup pa_nil) pe_int) pa_nil))) (by rfl))
      (pss_cons (ps_set (i := 6) hnd rfl (.inl rfl) (de_lst (ρ := [none, none, none, none, none, none, none, none, none, none, none, none, none, none, none, none]) das_nil))
      (pss_cons (ps_for PassesOwn.never rfl (di_range1 (ρ := [some (dWeb n hs), none, none, none, none, none, none, none, none, none, none, none, none, none, none, none]) (n := n) B.b_range (de_ixT (de_var 0 rfl) de_int rfl) (by omega) (by omega)) (pg_name (i := 7) hnd rfl (.inl rfl))
        (pss_ex (A := fun g : Nat => g < n) fun g hg =>
          pss_cons (ps_par (i := 8) (j := 9) rfl hnd rfl rfl (by decide) rfl rfl (pa_cons (de_callC (ρ := [none, none, none, some (dNear n hs), none, none, none, some (.int g), none, none, none, none, none, none, none, none]) (R := fun d => d = dNs (kept hs g)) C_kept_at hr (by decide) (das_cons (de_var 3 rfl) (das_cons (de_var 7 rfl) das_nil)) ⟨n, hs, g, rfl, ⟨hw, hg⟩, rfl⟩) (pa_cons pe_dnewT pa_nil)) (by rfl))
          (pss_cons (ps_lock (ps_for PassesOwn.never rfl (pi_itemsT (pv 5)) (pg_tup rfl (pgs_cons (pg_name (i := 10) hnd rfl (.inl rfl)) (pgs_cons (pg_name (i := 11) hnd rfl (.inl rfl)) pgs_nil)))
            (pss_cons (ps_set (i := 12) hnd rfl (.inr rfl) (pe_dictZip rfl B.b_dict rfl B.b_zip (pa_cons (pv 6) (pa_cons (pv 10) pa_nil))))
            (pss_one (ps_for PassesOwn.never rfl (pi_list (pe_callRaw C_choices_at hr (by decide) (pa_cons (pv 3) (pa_cons (pv 7) (pa_cons (pv 12) (pa_cons (pv 1) (pa_cons (pv 2) pa_nil))))))) (pg_name (i := 13) hnd rfl (.inl rfl))
              (pss_cons (ps_dput hu1 (pv 12) (pv 7) (pv 13) rfl)
              (pss_cons (ps_set (i := 14) hnd rfl (.inl rfl) (pe_callTy call_tuple_of rfl B.b_tuple PyProof.Rows.boot_tuple (pa_cons (pe_lc (own := [("one", 15)]) rfl hnd (di_listE (ρ := [none, none, none, none, none, none, none, none, some (dNs (kept hs g)), none, none, none, none, none, none, none]) (ds := (kept hs g).map fun (k : Nat) => .int k) (de_var 8 rfl)) (blkOk_by (by kernel_rfl)) (fun _ _ _ _ _ => pg_name (i := 15) hnd rfl (by first | exact Or.inl rfl | exact Or.inr rfl)) (fun _ _ _ _ _ => pts_nil) (fun _ _ _ _ _ => pe_dget hu1 (pv 12) (pv 15) (by exact fun _ _ => rfl))) pa_nil)))
              (pss_one (ps_dput hu1 (pv 9) (pv 14) (pe_op op_add (pe_dget2 hu1 (pv 9) (pv 14) pe_int ⟨rfl, rfl, rfl, rfl⟩) (pv 11)) rfl))))))))) 
          (pss_cons (ps_expr (pe_bm PySem.F.plainAttrs_list PySem.F.slot_list_append PySem.F.type_list_append mt_append (pv 4) (pa_cons (pv 9) pa_nil)))
          (pss_one (ps_par (i := 5) (j := 6) rfl hnd rfl rfl (by decide) rfl rfl (pa_cons (pv 9) (pa_cons (pv 8) pa_nil)) (by rfl)))))))
      (pss_one (ps_ret (pv 4))))), ?_⟩
    have e16 : ∀ {G2 : Hp} {a0 a1 a2 a3 a4 a5 a6 a7 a8 a9 a10 a11 a12 a13 a14 a15 : Option V}, EnvD K G2 [a0, a1, a2, a3, a4, a5, a6, a7, a8, a9, a10, a11, a12, a13, a14, a15] [none, none, none, none, none, none, none, none, none, none, none, none, none, none, none, none] := evN (evN (evN (evN (evN (evN (evN (evN (evN (evN (evN (evN (evN (evN (evN (evN ev0)))))))))))))))
    refine q_seq ?_
    refine ⟨G, sG, evS dw (evS dl (evS dh (evN (evN (evN (evN (evN (evN (evN (evN (evN (evN (evN (evN (evN ev0))))))))))))))), fun nv dd G1 H1 n1 e1 dn => ?_⟩
    subst e1
    refine ⟨(show 0 ≤ sizeLine by decide), fun F hF => ?_⟩
    refine fun N hN => ⟨(show 0 ≤ sizeLine by decide), fun t ht => ⟨t, [], rfl, upd_same, ?_, ?_⟩⟩
    · rw [upd_ne (ne_of_none upd_same ht), upd_same]
    refine ⟨nv, .ref F, .ref N, rfl, ?_⟩
    have nF := n1.trans (Nxt.new0 (o := .lst []) n1.s hF)
    have nN := nF.trans (Nxt.new0 (o := .dT []) nF.s hN)
    have nt := nN.trans (Nxt.new0 (o := .tup []) nN.s ht)
    have hF0 : H F = none := n1.h.free hF
    have gF1 : G1 F = none := n1.s.free hF
    have hN0 : H N = none := nF.h.free hN
    have gN1 : G1 N = none := nF.s.free hN
    have hFN : F ≠ N := fun e => by rw [← e, upd_same] at hN; cases hN
    have hFt : F ≠ t := ne_of_none (by rw [upd_ne hFN]; exact upd_same) ht
    have nx0 := nt.mut (o := .dT [([], V.int 1)]) hN0 gN1
    have hF5 : (upd (upd (upd (upd H1 F (.lst [])) N (.dT [])) t (.tup [])) N (.dT [([], V.int 1)])) F = some (.lst []) := by rw [upd_ne hFN, upd_ne hFt, upd_ne hFN, upd_same]
    dsimp only
    refine q_seq (q_set ?_)
    refine ⟨G1, nx0.s, e16, fun av dd G2 H2 n2 e2 da => ?_⟩
    subst e2
    dsimp only
    have aF := n2.stay hF5 gF1 trivial
    have aN := n2.stay (o := .dT [([], V.int 1)]) upd_same gN1 trivial
    have nx2 := nx0.trans n2
    refine q_seq ?_
    refine t_for (K := K) n2.s (ρ := [some (dWeb n hs), none, none, none, none, none, none, none, none, none, none, none, none, none, none, none]) ?_ (fun _ i σ3 G3 H3 => ∃ (ts : List V) (N : Addr) (kvs : List (List L2.Key × V)) (av : V) (y7 y8 y9 y10 y11 y12 y13 y14 y15 : Option V), σ3 = [some wv, some lv, some hv, some nv, some (.ref F), some (.ref N), some av, y7, y8, y9, y10, y11, y12, y13, y14, y15] ∧
      Nxt G H G3 H3 ∧ G3 F = none ∧ G3 N = none ∧ H N = none ∧ F ≠ N ∧ H3 F = some (.lst ts) ∧ ts.length = i ∧ H3 N = some (.dT kvs) ∧ Tab (ahd hs i).length kvs ∧ Dp K G3 av (dNs (ahd hs i)) ∧ (i ≤ 5 → kvs.length ≤ 21 ^ i) ∧ (0 < i → ∃ ts', ts = ts' ++ [.ref N]) ∧ Same G1 G3) ?_ ?_ ?_ ?_
    · exact evS (dp_mono nx2.g dw) (evN (evN (evN (evN (evN (evN (evN (evN (evN (evN (evN (evN (evN (evN (evN ev0)))))))))))))))
    · rintro ds G3 H3 _ n3
      have bF := n3.stay aF.1 aF.2 trivial
      have bN := n3.stay aN.1 aN.2 trivial
      refine ⟨[], N, [([], V.int 1)], av, _, _, _, _, _, _, _, _, _, rfl, nx2.trans n3, bF.2, bN.2, hN0, hFN, bF.1, rfl, bN.1, fun p hp => ?_, dp_mono n3.g da, fun _ => by decide, fun h => absurd h (Nat.lt_irrefl _), n2.g.trans n3.g⟩
      have : p = ([], V.int 1) := by simpa using hp
      subst this
      exact ⟨⟨[], rfl, rfl⟩, 1, rfl⟩
    · rintro ds i σ3 G3 H3 G4 H4 _ ⟨ts, N, kvs, av, y7, y8, y9, y10, y11, y12, y13, y14, y15, rfl, nx, gF, gN, hN0, hFN, hF3, htl, hN3, T, da, hlen, hend, g1⟩ n3
      have bF := n3.stay hF3 gF trivial
      have bN := n3.stay hN3 gN trivial
      exact ⟨ts, N, kvs, av, y7, y8, y9, y10, y11, y12, y13, y14, y15, rfl, nx.trans n3, bF.2, bN.2, hN0, hFN, bF.1, htl, bN.1, T, dp_mono n3.g da, hlen, hend, g1.trans n3.g⟩
    · rintro ds i dd xv σ3 G3 H3 rfl hdd ⟨ts, N, kvs, av, y7, y8, y9, y10, y11, y12, y13, y14, y15, rfl, nx, gF, gN, hN0, hFN, hF3, htl, hN3, T, da, hlen, hend, g1⟩ g3 s3 dxv N2 hN2
      have hd2 := hdd
      rw [rng_nat, List.getElem?_map] at hdd
      have hi : i < n := by
        have := (List.getElem?_eq_some_iff.mp hd2).1
        simpa [rngP] using this
      rw [List.getElem?_range hi] at hdd
      have e : PyData.int (i : Nat) = dd := Option.some.inj hdd
      subst e
      cases dxv
      refine ⟨i, hi, ?_⟩
      refine q_seq ?_
      refine ⟨G3, s3, evN (evN (evN (evS (dp_mono g1 dn) (evN (evN (evN (evS (.int _) (evN (evN (evN (evN (evN (evN (evN (evN ev0))))))))))))))), fun kv dd G4 H4 n4 e4 dk => ?_⟩
      subst e4
      refine fun L hL => ⟨kv, .ref L, rfl, ?_⟩
      dsimp only
      have bF := n4.stay hF3 gF trivial
      have bN := n4.stay hN3 gN trivial
      have nx4 := nx.trans n4
      have hL0 : H L = none := nx4.h.free hL
      have gL : G4 L = none := nx4.s.free hL
      have hFL : F ≠ L := ne_of_none bF.1 hL
      have hNL : N ≠ L := ne_of_none bN.1 hL
      have nxL := nx4.trans (Nxt.new0 (o := .dT []) nx4.s hL)
      refine q_seq ?_
      refine ⟨N, .dT kvs, by rw [upd_ne hNL]; exact bN.1, trivial, fun od => ?_⟩
      refine ⟨.ref N, rfl, N, od, kvs, rfl, upd_same, ?_⟩
      have nxM := nxL.mut (o := .frz od (.dT kvs)) hN0 bN.2
      have g14 := g1.trans n4.g
      have da4 := dp_mono n4.g da
      refine for_it walk_itemsT (fun j σ5 H5 => ∃ (G5 : Hp) (lk : List (List L2.Key × V)) (y10 y11 y12 y13 y14 y15 : Option V), σ5 = [some wv, some lv, some hv, some nv, some (.ref F), some (.ref N), some av, some (.int (i : Nat)), some kv, some (.ref L), y10, y11, y12, y13, y14, y15] ∧
        Nxt G H G5 H5 ∧ Same G4 G5 ∧ G5 F = none ∧ G5 N = none ∧ G5 L = none ∧ H5 F = some (.lst ts) ∧ H5 N = some (.frz od (.dT kvs)) ∧ H5 L = some (.dT lk) ∧ Tab (kept hs i).length lk ∧ (i + 1 ≤ 5 → lk.length ≤ 21 * j) ∧ (kept hs i = [] → lk.length ≤ 1)) ?_ ?_ ?_ ?_
      · exact ⟨G4, [], y10, y11, y12, y13, y14, y15, rfl, nxM, Same.refl _, bF.2, bN.2, gL, by rw [upd_ne hFN, upd_ne hFL]; exact bF.1, upd_same, by rw [upd_ne (Ne.symm hNL), upd_same], fun p hp => (by cases hp), fun _ => Nat.zero_le _, fun _ => Nat.zero_le _⟩
      · rintro j σ5 H5 _ ⟨G5, lk, _, _, _, _, _, _, _, _, _, _, _, _, _, hN5, _⟩
        exact hN5
      · rintro j x5 σ5 H5 H6 hj ⟨G5, lk, y10, y11, y12, y13, y14, y15, rfl, nx5, g45, gF5, gN5, gL5, hF5, hN5, hL5, T5, hle5, hone5⟩ ⟨t, qk, k, v, rfl, hkv, hqk, ht, rfl⟩
        obtain ⟨⟨ks, ek, hks⟩, many, em⟩ := T (k, v) (List.mem_of_getElem? hkv)
        dsimp only at ek em
        subst ek em
        have hFt : F ≠ t := ne_of_none hF5 ht
        have hNt : N ≠ t := ne_of_none hN5 ht
        have hLt : L ≠ t := ne_of_none hL5 ht
        have nx6 := nx5.trans (Nxt.new0 (o := .tup [.ref qk, .int many]) nx5.s ht)
        refine ⟨t, [.ref qk, .int many], rfl, .inl (.inl upd_same), rfl, .ref qk, [.int many], rfl, .int many, [], rfl, rfl, ?_⟩
        dsimp only
        refine q_seq (q_set ?_)
        have da5 := dp_mono g45 da4
        rw [dNs_ints] at da5
        obtain ⟨aa, rfl, haa⟩ := ints_of da5
        have hqt : qk ≠ t := ne_of_none hqk ht
        have hal := ahd_len (hs := hs) i
        refine ⟨.ref aa, rfl, .ref qk, rfl, aa, qk, (ahd hs i).map fun (k : Nat) => (k : Int), ks, rfl, nx6.s.seq haa, .inl (.inl (by rw [upd_ne hqt]; rw [← iK_V]; exact hqk)), by rw [List.length_map]; exact hks.symm, by rw [List.length_map]; omega, fun d kd hd hdl hdi => ?_⟩
        rw [List.length_map] at hdl
        dsimp only
        have hd0 : H d = none := nx6.h.free hd
        have gd : G5 d = none := nx6.s.free hd
        have nx7 := nx6.trans (Nxt.new0 (o := .dK kd) nx6.s hd)
        have hF6 : (upd H5 t (.tup [.ref qk, .int many])) F = some (.lst ts) := by rw [upd_ne hFt]; exact hF5
        have hN6 : (upd H5 t (.tup [.ref qk, .int many])) N = some (.frz od (.dT kvs)) := by rw [upd_ne hNt]; exact hN5
        have hL6 : (upd H5 t (.tup [.ref qk, .int many])) L = some (.dT lk) := by rw [upd_ne hLt]; exact hL5
        have hFd : F ≠ d := ne_of_none hF6 hd
        have hNd : N ≠ d := ne_of_none hN6 hd
        have hLd : L ≠ d := ne_of_none hL6 hd
        have gAll := g14.trans g45
        refine ⟨nv, rfl, .int (i : Nat), rfl, .ref d, rfl, lv, rfl, hv, rfl, ?_⟩
        refine ⟨G5, n, hs, i, x, y, d, kd, nv, lv, hv, rfl, nx7.s, dp_mono gAll dn, dp_mono (nx5.g) dl, dp_mono nx5.g dh, ⟨hw, th.lx, th.ly, hi, th.bx i hi, th.by_ i hi, th.d i hi⟩, gd, upd_same, fun g hadj hlt => hdi _ (List.mem_map.mpr ⟨g, ahd_has hadj hlt, rfl⟩), fun cv ns G8 H8 n8 hns dcv => ?_⟩
        obtain ⟨c, xs, rfl, h1, h2⟩ := dp_lst_inv dcv
        refine ⟨c, rfl, ⟨xs, n8.s.seq h1⟩, ?_⟩
        have cF := n8.stay (o := .lst ts) (by rw [upd_ne hFd]; exact hF6) gF5 trivial
        have cN := n8.stay (o := .frz od (.dT kvs)) (by rw [upd_ne hNd]; exact hN6) gN5 trivial
        have cL := n8.stay (o := .dT lk) (by rw [upd_ne hLd]; exact hL6) gL5 trivial
        have cd := n8.stay (o := .dK kd) upd_same gd trivial
        refine t_forJ (isIt_list h1 h2) n8.s (fun m σ9 G9 H9 => ∃ (lk' : List (List L2.Key × V)) (kd' : List (L2.Key × V)) (y13 y14 y15 : Option V), σ9 = [some wv, some lv, some hv, some nv, some (.ref F), some (.ref N), some (.ref aa), some (.int (i : Nat)), some kv, some (.ref L), some (.ref qk), some (.int many), some (.ref d), y13, y14, y15] ∧
          Nxt G H G9 H9 ∧ Same G4 G9 ∧ G9 F = none ∧ G9 N = none ∧ G9 L = none ∧ G9 d = none ∧ H9 F = some (.lst ts) ∧ H9 N = some (.frz od (.dT kvs)) ∧ H9 L = some (.dT lk') ∧ H9 d = some (.dK kd') ∧ Tab (kept hs i).length lk' ∧ (i + 1 ≤ 5 → lk'.length ≤ 21 * j + m) ∧ (kept hs i = [] → lk'.length ≤ 1) ∧ kd'.length ≤ 6 + m ∧ (∀ g ∈ ahd hs i, HasI kd' g)) ?_ ?_ ?_ ?_
        · exact ⟨lk, kd, y13, y14, y15, rfl, nx7.trans n8, g45.trans n8.g, cF.2, cN.2, cL.2, cd.2, cF.1, cN.1, cL.1, cd.1, T5, hle5, hone5, by omega, fun g hg => hdi _ (List.mem_map.mpr ⟨g, hg, rfl⟩)⟩
        · rintro m σ9 G9 H9 G10 H10 ⟨lk', kd', y13, y14, y15, rfl, nx9, g9, gF9, gN9, gL9, gd9, hF9, hN9, hL9, hd9, T9, hle9, hone9, hkd9, has9⟩ n10
          have eF := n10.stay hF9 gF9 trivial
          have eN := n10.stay hN9 gN9 trivial
          have eL := n10.stay hL9 gL9 trivial
          have ed := n10.stay hd9 gd9 trivial
          exact ⟨lk', kd', y13, y14, y15, rfl, nx9.trans n10, g9.trans n10.g, eF.2, eN.2, eL.2, ed.2, eF.1, eN.1, eL.1, ed.1, T9, hle9, hone9, hkd9, has9⟩
        · rintro m dz xz σ9 G9 H9 hdz ⟨lk', kd', y13, y14, y15, rfl, nx9, g9, gF9, gN9, gL9, gd9, hF9, hN9, hL9, hd9, T9, hle9, hone9, hkd9, has9⟩ g89 s9 dxz N3 hN3'
          have hm : m < ns.length := by
            have := (List.getElem?_eq_some_iff.mp hdz).1
            rwa [List.length_map] at this
          rw [List.getElem?_map, List.getElem?_eq_getElem hm] at hdz
          have e6 : PyData.int ns[m] = dz := Option.some.inj hdz
          subst e6
          cases dxz
          dsimp only
          refine q_seq ?_
          refine ⟨.int ns[m], rfl, .ref d, rfl, .int (i : Nat), rfl, d, _, rfl, DPut.k (k := Sum.inl ((i : Nat) : Int)) hd9 (by rw [sizeLine_eq]; omega), ?_⟩
          have nx10 := nx9.mut (o := .dK (putK kd' (Sum.inl ((i : Nat) : Int) : L2.Key) (V.int ns[m]))) hd0 gd9
          have hkl := putK_len kd' (Sum.inl ((i : Nat) : Int) : L2.Key) (V.int ns[m])
          have hF10 : (upd H9 d (.dK (putK kd' (Sum.inl ((i : Nat) : Int) : L2.Key) (V.int ns[m])))) F = some (.lst ts) := by rw [upd_ne hFd]; exact hF9
          have hN10 : (upd H9 d (.dK (putK kd' (Sum.inl ((i : Nat) : Int) : L2.Key) (V.int ns[m])))) N = some (.frz od (.dT kvs)) := by rw [upd_ne hNd]; exact hN9
          have hL10 : (upd H9 d (.dK (putK kd' (Sum.inl ((i : Nat) : Int) : L2.Key) (V.int ns[m])))) L = some (.dT lk') := by rw [upd_ne hLd]; exact hL9
          have hkk := kept_len (hs := hs) (m := i)
          dsimp only
          refine q_seq (q_set ?_)
          unfold tCB tCons
          refine t_lcGet (ds := 12) (i := 15) (d := d) (kvs := putK kd' (Sum.inl ((i : Nat) : Int) : L2.Key) (V.int ns[m])) (ks := kept hs i) (by decide) (by show 15 < 16; decide) nx10.s (evN (evN (evN (evN (evN (evN (evN (evN (evS (dp_mono g9 dk) (evN (evN (evN (evN (evN (evN (evN ev0)))))))))))))))) rfl gd9 upd_same (fun g hg => ?_) (by omega) (fun tv us G11 H11 n11 hus dtv => ?_)
          · rcases kept_sub hg with e | hg
            · subst e; exact HasI.here
            · exact (has9 g hg).put
          obtain ⟨p, rfl, hp⟩ := ints_of dtv
          refine ⟨p, us.map V.int, rfl, .inl ⟨n11.s.seq hp, fun tt htt => ?_⟩⟩
          dsimp only
          have nx11 := nx10.trans n11
          have fF := n11.stay hF10 gF9 trivial
          have fN := n11.stay hN10 gN9 trivial
          have fL := n11.stay hL10 gL9 trivial
          have fd' := n11.stay (o := .dK (putK kd' (Sum.inl ((i : Nat) : Int) : L2.Key) (V.int ns[m]))) upd_same gd9 trivial
          have nx12 := nx11.trans (Nxt.new0 (o := .tup (us.map V.int)) nx11.s htt)
          have hFtt : F ≠ tt := ne_of_none fF.1 htt
          have hNtt : N ≠ tt := ne_of_none fN.1 htt
          have hLtt : L ≠ tt := ne_of_none fL.1 htt
          have hdtt : d ≠ tt := ne_of_none fd'.1 htt
          have hL12 : (upd H11 tt (.tup (us.map V.int))) L = some (.dT lk') := by rw [upd_ne hLtt]; exact fL.1
          have htt12 : (upd H11 tt (.tup (us.map V.int))) tt = some (.tup ((iK us).map kV)) := by rw [upd_same, iK_V]
          obtain ⟨iv, hiv⟩ := T9.get (iK us)
          refine ⟨.ref L, rfl, L, rfl, .inr ⟨_, .inl hL12⟩, .ref tt, rfl, _, DGet.t (k := iK us) hL12 htt12, ?_⟩
          rw [hiv]
          have hlt : lk'.length < sizeLine := by
            by_cases h5 : i + 1 ≤ 5
            · have h1 := hle9 h5
              have h2 := hlen (by omega)
              have h3 : 21 ^ i ≤ 21 ^ 4 := Nat.pow_le_pow_right (by decide) (by omega)
              have h4 : (21 : Nat) ^ 4 = 194481 := by decide
              rw [sizeLine_eq]
              omega
            · have e7 : i = n - 1 := by omega
              have := hone9 (by rw [e7]; exact kept_last hw)
              rw [sizeLine_eq]
              omega
          refine ⟨.int many, rfl, iv, many, rfl, rfl, .ref L, rfl, .ref tt, rfl, L, _, rfl, DPut.t hL12 htt12 hlt, ?_⟩
          have nx13 := nx12.mut (o := .dT (putK lk' (iK us) (V.int (iv + many)))) hL0 fL.2
          have hpl := putK_len lk' (iK us) (V.int (iv + many))
          refine hN3' _ G11 _ (n11.g) nx13.s ⟨_, _, _, _, _, rfl, nx13, g9.trans n11.g, fF.2, fN.2, fL.2, fd'.2, by rw [upd_ne hFL, upd_ne hFtt]; exact fF.1, by rw [upd_ne hNL, upd_ne hNtt]; exact fN.1, upd_same, by rw [upd_ne (Ne.symm hLd), upd_ne hdtt]; exact fd'.1, T9.put hus _, fun h5 => Nat.le_trans hpl (by have := hle9 h5; omega), fun h0 => ?_, by omega, fun g hg => (has9 g hg).put⟩
          have e0 : us = [] := List.length_eq_zero_iff.mp (by rw [hus, h0]; rfl)
          subst e0
          have T0 : Tab 0 lk' := by rw [h0] at T9; exact T9
          exact T0.one (hone9 h0) _
        · rintro σ9 G9 H9 ⟨lk', kd', y13, y14, y15, rfl, nx9, g9, gF9, gN9, gL9, gd9, hF9, hN9, hL9, hd9, T9, hle9, hone9, hkd9, has9⟩ g89 s9
          rw [List.length_map] at hle9
          exact ⟨G9, lk', _, _, _, _, _, _, rfl, nx9, g9, gF9, gN9, gL9, hF9, hN9, hL9, T9, fun h5 => by have := hle9 h5; omega, hone9⟩
      · rintro σ5 H5 ⟨G5, lk, y10, y11, y12, y13, y14, y15, rfl, nx5, g45, gF5, gN5, gL5, hF5, hN5, hL5, T5, hle5, hone5⟩
        refine ⟨hN5, ?_⟩
        dsimp only
        have nx6 := nx5.mut (o := .dT kvs) hN0 gN5
        refine q_seq ?_
        have hF6 : (upd H5 N (.dT kvs)) F = some (.lst ts) := by rw [upd_ne hFN]; exact hF5
        refine ⟨.ref F, rfl, .inl ⟨rfl, _, .inl (.inl hF6)⟩, .ref L, rfl, F, ts, .ref L, rfl, rfl, hF6, by rw [htl, sizeLine_eq]; omega, ?_⟩
        dsimp only
        have nx7 := nx6.mut (o := .lst (ts ++ [.ref L])) hF0 gF5
        refine ⟨.ref L, rfl, kv, rfl, .ref L, kv, rfl, ?_⟩
        refine hN2 _ G5 _ (n4.g.trans g45) nx7.s ⟨ts ++ [.ref L], L, lk, kv, _, _, _, _, _, _, _, _, _, rfl, nx7, gF5, gL5, hL0, hFL, upd_same, by rw [List.length_append, htl]; rfl, by rw [upd_ne (Ne.symm hFL), upd_ne (Ne.symm hNL)]; exact hL5, T5, dp_mono g45 dk, fun h5 => ?_, fun _ => ⟨ts, rfl⟩, g14.trans g45⟩
        have h1 := hle5 h5
        have h2 := hlen (by omega)
        rw [Nat.pow_succ]
        omega
    · rintro ds σ3 G3 H3 rfl ⟨ts, N, kvs, av, y7, y8, y9, y10, y11, y12, y13, y14, y15, rfl, nx, gF, gN, hN0, hFN, hF3, htl, hN3, T, da, hlen, hend, g1⟩ g3 s3
      have hl : (rngP 0 (n : Int).toNat).length = n := by simp [rngP]
      rw [hl] at hend
      obtain ⟨ts', rfl⟩ := hend hw.pos
      exact ⟨.ref F, rfl, q F ts' N kvs _ G3 H3 nx hF3 gF hN3 gN T⟩
theorem atI_last (ts : List V) (v : V) : atI (ts ++ [v]) (-1) = some v := by
  unfold atI ixN
  rw [if_neg (by omega), List.length_append, List.length_singleton, if_pos (by omega)]
  rw [show (-1 + ((ts.length + 1 : Nat) : Int)).toNat = ts.length by omega]
  show (ts ++ [v])[ts.length]? = some v
  simp
def fNum : List PyData → (PyData → Prop) → Prop := fun ds R => ∃ n hs x y, ds = [dWeb n hs, dTs x, dTs y] ∧ (WebOk n hs ∧ Thin n x y) ∧ ∀ k : Int, R (.int k)
theorem ok_number_within (B : Bl mg) (C_tables_of : Cal P w K mg base 2 "tables_of" p_tables_of (spTab K)) (F : Fun K "number_within" "number_within" s_number_within f fd) : FnOk P w K mg base CX0 3 f fd p_number_within (spD K fNum) := by
  refine F.ok sc_number_within (fun vs H Q E h => ?_) (fun cdv A outer s H vs Q E hr h => ?_)
  · obtain ⟨G, ds, R, _, dp, ⟨n, hs, x, y, rfl, _⟩, _⟩ := h
    exact dpAll_len dp
  · obtain ⟨G, ds, R, sG, dp, ⟨n, hs, x, y, rfl, hh, hR⟩, q⟩ := h
    obtain ⟨wv, lv, hv, rfl, dw, dl, dh⟩ := dp3 dp
    refine ⟨_, pss_one (ps_ret (pe_callB (cr_sumVals rfl) rfl B.b_sum boot_sum (pa_cons (pe_bm0 PySem.F.plainAttrs_dict PySem.F.slot_dict_values PySem.F.type_dict_values mt_valuesT (pe_ix ix_list (pe_callRaw C_tables_of hr (by decide) (pa_cons (pv 0) (pa_cons (pv 1) (pa_cons (pv 2) pa_nil)))) (pe_un un_neg pe_int) (by exact fun _ _ => rfl))) pa_nil))), ?_⟩
    refine q_ret ?_
    refine ⟨wv, rfl, lv, rfl, hv, rfl, ?_⟩
    refine ⟨G, n, hs, x, y, wv, lv, hv, rfl, sG, dw, dl, dh, hh, fun F ts N kvs m G1 H1 n1 hF gF hN gN T => ?_⟩
    refine ⟨1, rfl, F, ts ++ [.ref N], -1, .ref N, rfl, rfl, .inl (.inl hF), atI_last ts _, .inr (.inr (.inl ⟨rfl, .inr ⟨_, hN⟩⟩)), N, kvs, rfl, rfl, hN, fun p hp => ⟨p, N, kvs, rfl, upd_same, by rw [upd_ne (ne_of_none hN hp)]; exact hN, fun q hq => (T q hq).2, fun k => ?_⟩⟩
    have n2 := n1.trans (Nxt.new0 (o := valuesO p N) n1.s hp)
    exact q (.int k) (.int k) G1 _ n2 (hR k) (.int k)
def fCount : List PyData → (PyData → Prop) → Prop := fun ds R => ∃ n hs x y, ds = [dWeb n hs, dTs x, dTs y] ∧ (Bnd n hs x y ∧ Thin n x y) ∧ ∀ k : Int, R (.int k)
theorem ok_count_within (B : Bl mg) (C_need_narrow : Cal P w K mg base 6 "need_narrow" p_need_narrow (spD K fNone)) (C_need_bounds : Cal P w K mg base 8 "need_bounds" p_need_bounds (spD K fBnd)) (C_number_within : Cal P w K mg base 3 "number_within" p_number_within (spD K fNum)) (F : Fun K "count_within" "count_within" s_count_within f fd) : FnOk P w K mg base CX0 9 f fd p_count_within (spD K fCount) := by
  refine fun_d F sc_count_within (fun ds R h => ?_) fun cdv A outer s H E hr ds R h => ?_
  · obtain ⟨n, hs, x, y, rfl, _⟩ := h; rfl
  · obtain ⟨n, hs, x, y, rfl, ⟨hb, ht⟩, hR⟩ := h
    refine db_expr (P := fun _ => True) (de_callC C_need_narrow hr (by decide) (das_cons (de_var 0 rfl) das_nil) ⟨n, hs, rfl, hb.1.1, trivial⟩) ?_
    refine db_expr (P := fun _ => True) (de_callC C_need_bounds hr (by decide) (das_cons (de_var 0 rfl) (das_cons (de_var 1 rfl) (das_cons (de_var 2 rfl) das_nil))) ⟨n, hs, x, y, rfl, hb, trivial⟩) ?_
    exact db_ret (de_callC C_number_within hr (by decide) (das_cons (de_var 0 rfl) (das_cons (de_var 1 rfl) (das_cons (de_var 2 rfl) das_nil))) ⟨n, hs, x, y, rfl, ⟨hb.1.1, ht⟩, hR⟩)
end
end TW
/-! TWA: _law_far, _law_next. -/
namespace TW
open PySem PySem.Spec PyProof.Rows L2
section
variable {P : Program} {w : World} {K : PySem.W.Frag} {mg : Str → Option Value} {base : Heap} {f : Addr} {fd : FuncData}
theorem nones_le (fs : List (Option Int)) : nones fs ≤ fs.length := List.length_filter_le ..
theorem dNs_all (xs : List Nat) : ∀ {H : Hp}, DpAll K H (xs.map fun (k : Nat) => V.int k) (xs.map fun (k : Nat) => .int k) := by
  intro H
  have := dpAll_ints (K := K) (H := H) (xs.map fun (k : Nat) => (k : Int))
  rwa [List.map_map, List.map_map] at this
def fFar : List PyData → (PyData → Prop) → Prop := fun ds R => ∃ n hs first, ds = [dWeb n hs, .int (first : Nat)] ∧ WebOk n hs ∧ first < n ∧ ∀ ks : List Int, FarOk n hs first ks → R (dL ks)
theorem ok_law_far (B : Bl mg) (C_law_nears : Cal P w K mg base 1 "_law_nears" p_law_nears (spD K fNears)) (F : Fun K "_law_far" "_law_far" s_law_far f fd) : FnOk P w K mg base CX0 2 f fd p_law_far (spD K fFar) := by
  refine F.ok sc_law_far (fun vs H Q E h => ?_) (fun cdv A outer s H vs Q E hr h => ?_)
  · obtain ⟨G, ds, R, _, dp, ⟨n, hs, first, rfl, _⟩, _⟩ := h
    exact dpAll_len dp
  · obtain ⟨G, ds, R, sG, dp, ⟨n, hs, first, rfl, hw, hf, hR⟩, q⟩ := h
    obtain ⟨v, v2, rfl, dv, dv2⟩ := dp2 dp
    cases dv2
    have hnd := sc_law_far.nd
    have hu := hr.units
    have en : EnvD K G [some v, some (.int first), none, none, none, none, none, none, none] [some (dWeb n hs), some (.int first), none, none, none, none, none, none, none] := evS dv (evS (.int _) (evN (evN (evN (evN (evN (evN (evN ev0))))))))
    refine ⟨_, pss_cons (ps_asg (pe_tup
        (pa_cons (de_callC (R := fun d => d = dNear n hs) (ρ := [some (dWeb n hs), some (.int first), none, none, none, none, none, none, none]) (ds := [dWeb n hs]) C_law_nears hr (by decide) (das_cons (de_var 0 rfl) das_nil) ⟨n, hs, rfl, hw.r, rfl⟩)
        (pa_cons (pe_op op_rep (pe_lst (pa_cons pe_non pa_nil)) (de_ixT (ρ := [some (dWeb n hs), some (.int first), none, none, none, none, none, none, none]) (d := .int n) (ds := [.int n, dHs hs]) (de_var 0 rfl) de_int rfl))
        (pa_cons (pe_lst (pa_cons (pv 1) pa_nil)) (pa_cons pe_int pa_nil))))) (pg_tup rfl (pgs_cons (pg_name (i := 2) hnd rfl (.inl rfl)) (pgs_cons (pg_name (i := 3) hnd rfl (.inl rfl)) (pgs_cons (pg_name (i := 4) hnd rfl (.inl rfl)) (pgs_cons (pg_name (i := 5) hnd rfl (.inl rfl)) pgs_nil))))))
      (pss_cons (ps_asg pe_int (pg_sub (pv 3) (pv 1) set_list))
      (pss_cons (ps_while PassesOwn.never (pt_cmpR (op_neD hu) (pv 4) (pe_lst pa_nil) (nomark _))
        (pss_cons (ps_par (i := 5) (j := 6) rfl hnd rfl rfl (by decide) rfl rfl (pa_cons (pe_op op_add (pv 5) pe_int) (pa_cons (pe_lst pa_nil) pa_nil)) (by rfl))
        (pss_cons (ps_for PassesOwn.never rfl (pi_list (pv 4)) (pg_name (i := 7) hnd rfl (.inl rfl))
          (pss_one (ps_for PassesOwn.never rfl (pi_list (pe_ix ix_list (pv 2) (pv 7) (fun _ _ => rfl))) (pg_name (i := 8) hnd rfl (.inl rfl))
            (pss_one (ps_if (pt_cmp (pc_isN (pe_ix ix_list (pv 3) (pv 8) (fun _ _ => rfl))))
              (pss_cons (ps_asg (pv 5) (pg_sub (pv 3) (pv 8) set_list))
              (pss_one (ps_expr (pe_bm PySem.F.plainAttrs_list PySem.F.slot_list_append PySem.F.type_list_append mt_append (pv 6) (pa_cons (pv 8) pa_nil)))))
              pss_nil)))))
        (pss_one (ps_set (i := 4) hnd rfl (.inl rfl) (pv 6))))))
      (pss_one (ps_ret (pv 3))))), ?_⟩
    obtain ⟨par, hpar⟩ := hw.par
    have hsm := hw.small
    refine q_seq ?_
    refine ⟨G, sG, en, fun nv nd' G1 H1 n1 e1 dn => ?_⟩
    subst e1
    refine ⟨by decide, fun l hl => ?_⟩
    have n2 := n1.trans (Nxt.new0 (o := .lst [V.non]) n1.s hl)
    refine ⟨G1, n2.s, en.mono n1.g, fun iv id' G3 H3 n3 e3 di => ?_⟩
    subst e3
    cases di
    have n4 := n2.trans n3
    refine ⟨l, n, [V.non], rfl, rfl, n3.h _ _ upd_same, by omega, by omega, by simp; rw [sizeLine_eq]; omega, fun fa hfa => ?_⟩
    rw [rep_flat, show ((n : Int).toNat) = n from Int.toNat_natCast n]
    have n5 := n4.trans (Nxt.new0 (o := .lst (List.replicate n V.non)) n4.s hfa)
    refine ⟨.int first, rfl, (show 1 ≤ sizeLine by decide), fun la hla => ?_⟩
    have n6 := n5.trans (Nxt.new0 (o := .lst [V.int first]) n5.s hla)
    have hfl : fa ≠ la := fun e => by rw [← e, upd_same] at hla; cases hla
    have h0f : H fa = none := n4.h.free hfa
    have h0l : H la = none := n5.h.free hla
    have g3f : G3 fa = none := n4.s.free hfa
    have g3l : G3 la = none := n5.s.free hla
    have dn3 := dp_mono n3.g dn
    refine ⟨(show 4 ≤ sizeLine by decide), fun tt htt => ?_⟩
    have n7 := n6.trans (Nxt.new0 (o := .tup [nv, .ref fa, .ref la, .int 0]) n6.s htt)
    have hft : fa ≠ tt := ne_of_none (by rw [upd_ne hfl]; exact upd_same) htt
    have hlt' : la ≠ tt := ne_of_none upd_same htt
    refine ⟨tt, [nv, .ref fa, .ref la, .int 0], rfl, .inl (.inl upd_same), rfl, nv, _, rfl, .ref fa, _, rfl, .ref la, _, rfl, .int 0, [], rfl, rfl, ?_⟩
    dsimp only
    refine q_seq ?_
    refine ⟨.ref fa, rfl, .int first, rfl, fa, List.replicate n V.non, (first : Nat), first, rfl, rfl, by rw [upd_ne hft, upd_ne hfl, upd_same], ?_, ?_⟩
    · unfold ixN
      rw [if_pos (by omega), if_pos (by simp; omega)]
      rfl
    have n8 := n7.mut (o := .lst ((List.replicate n V.non).set first (V.int 0))) h0f g3f
    dsimp only
    refine q_seq ?_
    have fs0 : (List.replicate n V.non).set first (V.int 0) = ((List.replicate n (none : Option Int)).set first (some 0)).map vO := by
      rw [List.map_set, List.map_replicate]; rfl
    rw [fs0] at n8 ⊢
    refine t_while (fun m σ2 G2 H2 => ∃ (fs : List (Option Int)) (rim : List Nat) (mm : Int) (ra : Addr) (y6 y7 y8 : Option V), m = 2 * nones fs + (if rim = [] then 0 else 1) ∧ σ2 = [some v, some (.int first), some nv, some (.ref fa), some (.ref ra), some (.int mm), y6, y7, y8] ∧ Nxt G H G2 H2 ∧ G2 fa = none ∧ G2 ra = none ∧ H ra = none ∧ fa ≠ ra ∧ Dp K G2 nv (dNear n hs) ∧
      H2 fa = some (.lst (fs.map vO)) ∧ H2 ra = some (.lst (rim.map fun (j : Nat) => V.int j)) ∧ Lev n hs par first fs mm rim [] (fun _ _ => False)) (2 * nones ((List.replicate n (none : Option Int)).set first (some 0)) + 1) n8.s ?_ ?_ ?_
    · exact ⟨_, [first], 0, la, none, none, none, rfl, rfl, n8, g3f, g3l, h0l, hfl, dn3, upd_same, by rw [upd_ne (Ne.symm hfl), upd_ne hlt', upd_same]; rfl, lev_start hf⟩
    · rintro m σ2 G2 H2 ⟨fs, rim, mm, ra, y6, y7, y8, rfl, rfl, nx, gf, gr, hr0, hfr, dnv, hfs, hrm, L⟩ g2 s2 N hN
      have hfl2 : fs.length = n := L.len
      refine ⟨.ref ra, rfl, (show 0 ≤ sizeLine by decide), fun e he => ?_⟩
      have n3 := nx.trans (Nxt.new0 (o := .lst []) s2 he)
      have hre : ra ≠ e := ne_of_none hrm he
      have hfe : fa ≠ e := ne_of_none hfs he
      have hrm3 : (upd H2 e (.lst [])) ra = some (.lst (rim.map fun (j : Nat) => V.int j)) := by rw [upd_ne hre]; exact hrm
      have hfs3 : (upd H2 e (.lst [])) fa = some (.lst (fs.map vO)) := by rw [upd_ne hfe]; exact hfs
      refine ⟨dNs rim, .list [], .lst (.inl (.inl hrm3)) (dpAll_w (dNs_all rim)), .lst (.inl (.inl upd_same)) .nil, (sh_dNs rim).shaped, sh_nil.shaped, _, rfl, ?_⟩
      rw [eqv_nil, List.isEmpty_map]
      by_cases hrim : rim = []
      · subst hrim
        refine iteF ?_
        obtain ⟨ks, hk2, hk3⟩ := L.all rfl hw hpar
        rw [hk2, vO_some] at hfs3
        refine ⟨.ref fa, rfl, ?_⟩
        have nf := Nxt.take n3.s hfs3 gf h0f n3
        exact q _ _ _ _ nf (hR ks hk3) (.lst (.inl (.inl upd_same)) (dpAll_ints ks))
      · have hne : (!rim.isEmpty) = true := by simp [hrim]
        rw [hne]
        refine iteT ?_
        refine q_seq ?_
        refine ⟨.int mm, rfl, mm, 1, rfl, rfl, (show 0 ≤ sizeLine by decide), fun lt hlt => ⟨_, _, rfl, ?_⟩⟩
        dsimp only
        have n4 := n3.trans (Nxt.new0 (o := .lst []) n3.s hlt)
        have hlt0 : H lt = none := n3.h.free hlt
        have glt : G2 lt = none := n3.s.free hlt
        have hflt : fa ≠ lt := ne_of_none hfs3 hlt
        have hrlt : ra ≠ lt := ne_of_none hrm3 hlt
        have hfs4 : (upd (upd H2 e (.lst [])) lt (.lst [])) fa = some (.lst (fs.map vO)) := by rw [upd_ne hflt]; exact hfs3
        have hrm4 : (upd (upd H2 e (.lst [])) lt (.lst [])) ra = some (.lst (rim.map fun (j : Nat) => V.int j)) := by rw [upd_ne hrlt]; exact hrm3
        obtain ⟨na, nxs, rfl, hn1, hn2⟩ := dp_lst_inv dnv
        refine q_seq ?_
        refine ⟨.ref ra, rfl, ra, rfl, ⟨_, .inl (.inl hrm4)⟩, ?_⟩
        refine for_list (xs := rim.map fun (j : Nat) => V.int j) (fun i σ3 H3 => ∃ (fs' : List (Option Int)) (later : List Nat) (y7 y8 : Option V), σ3 = [some v, some (.int first), some (.ref na), some (.ref fa), some (.ref ra), some (.int (mm + 1)), some (.ref lt), y7, y8] ∧ Nxt G H G2 H3 ∧
          H3 fa = some (.lst (fs'.map vO)) ∧ H3 ra = some (.lst (rim.map fun (j : Nat) => V.int j)) ∧ H3 lt = some (.lst (later.map fun (j : Nat) => V.int j)) ∧ nones fs' + later.length = nones fs ∧ Lev n hs par first fs' mm rim later (fun u g => ∃ j, j < i ∧ rim[j]? = some u ∧ Adj hs u g)) ?_ ?_ ?_ ?_
        · exact ⟨fs, [], y7, y8, rfl, n4, hfs4, hrm4, upd_same, rfl, L.imp fun a b ⟨j, hj, _⟩ => by omega⟩
        · rintro i σ3 H3 _ ⟨fs', later, y7, y8, rfl, nx3, _, hr3, _⟩
          exact .inl (.inl hr3)
        · rintro i x σ3 H3 hx ⟨fs', later, y7, y8, rfl, nx3, hf3, hr3, hl3, hcn, L3⟩
          rw [List.getElem?_map] at hx
          cases hu' : rim[i]? with
          | none => rw [hu'] at hx; cases hx
          | some u =>
            rw [hu'] at hx
            have hx' : V.int u = x := Option.some.inj hx
            subst hx'
            have um : u ∈ rim := List.mem_of_getElem? hu'
            have un : u < n := by
              have := (List.getElem?_eq_some_iff.mp ((L3.rim u).mp um)).1
              rw [L3.len] at this; exact this
            obtain ⟨w', hw1, hw2⟩ := dpAll_get hn2 (i := u) (d := dNs (nbr hs u)) (by simp [un])
            have hw2' : Dp K G2 w' (.list (((nbr hs u).map fun (j : Nat) => (j : Int)).map .int)) := by rw [List.map_map]; exact hw2
            obtain ⟨wa, rfl, hwl⟩ := ints_of hw2'
            refine ⟨.ref na, rfl, .int u, rfl, na, nxs, (u : Nat), .ref wa, rfl, rfl, nx3.s.seq hn1, atI_nat hw1, wa, rfl, ⟨_, nx3.s.seq hwl⟩, ?_⟩
            refine for_list (xs := ((nbr hs u).map fun (j : Nat) => (j : Int)).map V.int) (fun i2 σ4 H4 => ∃ (fs' : List (Option Int)) (later : List Nat) (y8 : Option V), σ4 = [some v, some (.int first), some (.ref na), some (.ref fa), some (.ref ra), some (.int (mm + 1)), some (.ref lt), some (.int u), y8] ∧ Nxt G H G2 H4 ∧
              H4 fa = some (.lst (fs'.map vO)) ∧ H4 ra = some (.lst (rim.map fun (j : Nat) => V.int j)) ∧ H4 lt = some (.lst (later.map fun (j : Nat) => V.int j)) ∧ nones fs' + later.length = nones fs ∧ Lev n hs par first fs' mm rim later (fun a g => (∃ j, j < i ∧ rim[j]? = some a ∧ Adj hs a g) ∨ (a = u ∧ ∃ j, j < i2 ∧ (nbr hs u)[j]? = some g))) ?_ ?_ ?_ ?_
            · exact ⟨fs', later, y8, rfl, nx3, hf3, hr3, hl3, hcn, L3.imp fun a b h => h.elim id fun ⟨_, j, hj, _⟩ => by omega⟩
            · rintro i2 σ4 H4 _ ⟨_, _, _, rfl, nx4, _⟩
              exact nx4.s.seq hwl
            · rintro i2 x2 σ4 H4 hx2 ⟨fs', later, y8, rfl, nx4, hf4, hr4, hl4, hcn, L4⟩
              rw [List.getElem?_map, List.getElem?_map] at hx2
              cases hg : (nbr hs u)[i2]? with
              | none => rw [hg] at hx2; cases hx2
              | some g =>
                rw [hg] at hx2
                have hx' : V.int g = x2 := Option.some.inj hx2
                subst hx'
                have hadj : Adj hs u g := mem_nbr.mp (List.mem_of_getElem? hg)
                have gn : g < n := (hw.adj hadj).2
                have gl : g < fs'.length := by rw [L4.len]; exact gn
                have hgf : (fs'.map vO)[g]? = some (vO fs'[g]) := by rw [List.getElem?_map, List.getElem?_eq_getElem gl]; rfl
                have im : ∀ a b, ((∃ j, j < i ∧ rim[j]? = some a ∧ Adj hs a b) ∨ (a = u ∧ ∃ j, j < i2 + 1 ∧ (nbr hs u)[j]? = some b)) → (((∃ j, j < i ∧ rim[j]? = some a ∧ Adj hs a b) ∨ (a = u ∧ ∃ j, j < i2 ∧ (nbr hs u)[j]? = some b)) ∨ (a = u ∧ b = g)) := by
                  rintro a b (h | ⟨ea, j, hj, hb⟩)
                  · exact .inl (.inl h)
                  · by_cases ej : j < i2
                    · exact .inl (.inr ⟨ea, j, ej, hb⟩)
                    · have e2 : j = i2 := by omega
                      subst e2
                      rw [hg] at hb; cases hb
                      exact .inr ⟨ea, rfl⟩
                refine ⟨.ref fa, rfl, .int g, rfl, fa, _, (g : Nat), vO fs'[g], rfl, rfl, .inl (.inl hf4), atI_nat hgf, _, rfl, ?_⟩
                rw [vO_non]
                cases hfg : fs'[g] with
                | some kk =>
                  refine iteF ?_
                  exact ⟨fs', later, _, rfl, nx4, hf4, hr4, hl4, hcn, (L4.old (u := u) (k := kk) (by rw [List.getElem?_eq_getElem gl, hfg])).imp im⟩
                | none =>
                  refine iteT ?_
                  have hfn : fs'[g]? = some none := by rw [List.getElem?_eq_getElem gl, hfg]
                  refine q_seq ?_
                  refine ⟨.int (mm + 1), rfl, .ref fa, rfl, .int g, rfl, fa, _, (g : Nat), g, rfl, rfl, hf4, ?_, ?_⟩
                  · unfold ixN
                    rw [if_pos (by omega), if_pos (by simp; omega)]
                    rfl
                  have hs1 : (fs'.map vO).set g (V.int (mm + 1)) = (fs'.set g (some (mm + 1))).map vO := by rw [List.map_set]; rfl
                  rw [hs1]
                  have nx5 := nx4.mut (o := .lst ((fs'.set g (some (mm + 1))).map vO)) h0f gf
                  have hl5 : (upd H4 fa (.lst ((fs'.set g (some (mm + 1))).map vO))) lt = some (.lst (later.map fun (j : Nat) => V.int j)) := by rw [upd_ne (Ne.symm hflt)]; exact hl4
                  have hr5 : (upd H4 fa (.lst ((fs'.set g (some (mm + 1))).map vO))) ra = some (.lst (rim.map fun (j : Nat) => V.int j)) := by rw [upd_ne (Ne.symm hfr)]; exact hr4
                  have hns := nones_set (v := mm + 1) hfn
                  have hnl := nones_le fs
                  refine ⟨.ref lt, rfl, .inl ⟨rfl, _, .inl (.inl hl5)⟩, .int g, rfl, lt, _, .int g, rfl, rfl, hl5, by rw [List.length_map, sizeLine_eq]; omega, ?_⟩
                  have nx6 := nx5.mut (o := .lst ((later.map fun (j : Nat) => V.int j) ++ [V.int g])) hlt0 glt
                  exact ⟨fs'.set g (some (mm + 1)), later ++ [g], _, rfl, nx6, by rw [upd_ne hflt, upd_same], by rw [upd_ne hrlt]; exact hr5, by rw [upd_same, List.map_append]; rfl, by rw [List.length_append, List.length_singleton]; omega, (L4.new hpar um hadj hfn).imp im⟩
            · rintro σ4 H4 ⟨fs', later, y8, rfl, nx4, hf4, hr4, hl4, hcn, L4⟩
              rw [List.length_map, List.length_map] at L4
              refine ⟨fs', later, _, _, rfl, nx4, hf4, hr4, hl4, hcn, L4.imp ?_⟩
              rintro a b ⟨j, hj, ha, hab⟩
              by_cases ej : j < i
              · exact .inl ⟨j, ej, ha, hab⟩
              · have e2 : j = i := by omega
                subst e2
                rw [hu'] at ha; cases ha
                obtain ⟨j2, hj2, e3⟩ := List.getElem_of_mem (mem_nbr.mpr hab)
                exact .inr ⟨rfl, j2, hj2, by rw [List.getElem?_eq_getElem hj2, e3]⟩
        · rintro σ3 H3 ⟨fs', later, y7, y8, rfl, nx3, hf3, hr3, hl3, hcn, L3⟩
          rw [List.length_map] at L3
          dsimp only
          refine ⟨.ref lt, rfl, ?_⟩
          refine hN _ _ G2 H3 ?_ (Same.refl _) nx3.s ⟨fs', later, mm + 1, lt, _, _, _, rfl, rfl, nx3, gf, glt, hlt0, hflt, .lst hn1 hn2, hf3, hl3, L3.next fun u hum g hadj => ?_⟩
          · rw [if_neg hrim]
            cases later with
            | nil => rw [if_pos rfl]; simp at hcn; omega
            | cons a r => rw [if_neg (by simp)]; simp at hcn; omega
          · obtain ⟨j, hj, e2⟩ := List.getElem_of_mem hum
            exact ⟨j, hj, by rw [List.getElem?_eq_getElem hj, e2], hadj⟩
    · rintro σ2 H2 Q1 Q2 hq ⟨x5, hx5, hz0, hall⟩
      refine ⟨x5, hx5, hz0, fun p hp => ?_⟩
      obtain ⟨d1, e1, h1, h2, h3, h4, b, hb, hrest⟩ := hall p hp
      exact ⟨d1, e1, h1, h2, h3, h4, b, hb, hq _ _ hrest⟩
def fNext : List PyData → (PyData → Prop) → Prop := fun ds R => ∃ n hs x, ds = [dWeb n hs, dTs x] ∧ (WebOk n hs ∧ Lay n hs x) ∧ ∀ L : List (List Int), L ≠ [] → L.length ≤ 20 → (∀ z ∈ L, Deed n hs x z) → R (dLs L)
theorem ok_law_next (B : Bl mg) (C_law_lows : Cal P w K mg base 2 "_law_lows" p_law_lows (spD K (fLowsL lows))) (C_law_highs : Cal P w K mg base 2 "_law_highs" p_law_highs (spD K (fLowsL highs))) (C_law_changed : Cal P w K mg base 1 "_law_changed" p_law_changed (spD K fChg)) (F : Fun K "_law_next" "_law_next" s_law_next f fd) : FnOk P w K mg base CX0 3 f fd p_law_next (spD K fNext) := by
  refine fun_d F sc_law_next (fun ds R h => ?_) fun cdv A outer s H E hr ds R h => ?_
  · obtain ⟨n, hs, x, rfl, _⟩ := h; rfl
  · obtain ⟨n, hs, x, rfl, ⟨hw, hx⟩, hR⟩ := h
    have hu := hr.units
    have h1 := hw.small
    have hl := hx.len
    have ll := lows_le n hs x
    have hl2 := highs_le n hs x
    have hu4 : (cxD P w K mg base N_law_next "_law_next" s_law_next f cdv A outer s H E).A.units + 4 < cLine := by
      show (A.deeper (envOfC "_law_next" (defScope s_law_next) s.heap.objs.size f cdv)).units + 4 < cLine
      omega
    let M : List (List Int) := (lows n hs x).map (fun k => chg x k 2) ++ (highs n hs x).map (fun k => chg x k (-2))
    have hM : ∀ z ∈ M, Deed n hs x z := fun z hz => by
      rcases List.mem_append.mp hz with h | h
      · obtain ⟨k, hk, e⟩ := List.mem_map.mp h
        exact ⟨k, .inl ⟨hk, e.symm⟩⟩
      · obtain ⟨k, hk, e⟩ := List.mem_map.mp h
        exact ⟨k, .inr ⟨hk, e.symm⟩⟩
    have hlen : M.length ≤ 20 := by
      show ((_ : List (List Int)) ++ _).length ≤ 20
      rw [List.length_append, List.length_map, List.length_map]; omega
    have hne : ∀ z ∈ M, z ≠ [] := fun z hz e => by
      obtain ⟨k, h | h⟩ := hM z hz
      · have := congrArg List.length h.2
        rw [e, chg_len] at this
        have := hw.pos
        simp at *; omega
      · have := congrArg List.length h.2
        rw [e, chg_len] at this
        have := hw.pos
        simp at *; omega
    refine db_asg (i := 2) (ps_lcG (own := [("_law_field", 3)]) (L := lows n hs x) (enc := fun (k : Nat) => .int k) (f := fun k => dTs (chg x k 2)) rfl sc_law_next.nd rfl rfl (sw_true rfl rfl rfl (by decide +kernel)) (blkOk_by (by kernel_rfl)) (di_listE (de_callC C_law_lows hr (by decide) (das_cons (de_var 0 rfl) (das_cons (de_var 1 rfl) das_nil)) ⟨n, hs, x, rfl, ⟨hw, hx⟩, rfl⟩)) rfl (fun _ _ _ _ _ => pg_name (i := 3) sc_law_next.nd rfl (by first | exact Or.inl rfl | exact Or.inr rfl)) (fun _ _ => tgN 3) (sz6 (by omega)) (fun _ _ _ _ _ a ha => de_callC C_law_changed hr (by decide) (das_cons (de_var 1 rfl) (das_cons (de_var 3 rfl) (das_cons de_int das_nil))) ⟨x, a, 2, rfl, ⟨by rw [hl]; exact lows_lt ha, by omega⟩, rfl⟩)) ?_
    rintro _ rfl
    refine db_imp (db_ret (de_sortedR (β := List Int) (enc := dTs) (P := fun bs => bs = M) hu4 B.b_sorted (de_imp (de_catL (de_var 2 rfl) (de_lcG (own := [("_law_field", 3)]) (L := highs n hs x) (enc := fun (k : Nat) => .int k) (f := fun k => dTs (chg x k (-2))) rfl sc_law_next.nd (blkOk_by (by kernel_rfl)) (di_listE (de_callC C_law_highs hr (by decide) (das_cons (de_var 0 rfl) (das_cons (de_var 1 rfl) das_nil)) ⟨n, hs, x, rfl, ⟨hw, hx⟩, rfl⟩)) rfl (fun _ _ _ _ _ => pg_name (i := 3) sc_law_next.nd rfl (by first | exact Or.inl rfl | exact Or.inr rfl)) (fun _ _ => tgN 3) (sz6 (by omega)) (fun _ _ _ _ _ a ha => de_callC C_law_changed hr (by decide) (das_cons (de_var 1 rfl) (das_cons (de_var 3 rfl) (das_cons (de_sub de_int de_int) das_nil))) ⟨x, a, -2, rfl, ⟨by rw [hl]; exact highs_lt ha, by omega⟩, rfl⟩)) (by rw [List.length_map, List.length_map, sizeLine_eq]; omega)) fun d e => ⟨M, rfl, by rw [e]; show _ = PyData.list (M.map dTs); rw [show M = (lows n hs x).map (fun k => chg x k 2) ++ (highs n hs x).map (fun k => chg x k (-2)) from rfl, List.map_append, List.map_map, List.map_map]; rfl⟩)
      (by rintro _ rfl; exact dTs_alike _) (by rintro _ rfl; exact dTs_sortable hne) (by rintro _ rfl b _; exact dTs_depth b))) ?_
    rintro d ⟨bs, rfl, rfl⟩
    have pm : (M.mergeSort (PySem.W.dataLe false dTs)).Perm M := List.mergeSort_perm _ _
    refine hR _ (fun e => ?_) (by rw [pm.length_eq]; exact hlen) fun z hz => hM z (pm.mem_iff.mp hz)
    have : M.length = 0 := by rw [← pm.length_eq, e]; rfl
    have h2 : (lows n hs x).length ≤ M.length := by show _ ≤ ((_ : List (List Int)) ++ _).length; rw [List.length_append, List.length_map]; omega
    have h3 := List.length_pos_iff.mpr (lows_ne hw hx)
    omega
end
end TW
/-! TWP: the draws: a row that goes on changing. -/
namespace TW
open PySem PySem.Spec PyProof.Rows L2
/-- what may come of a heap where of the old things only the row at r is changed -/
structure NxtR (r : Addr) (G H G' H' : Hp) : Prop where
  h : ∀ b o, b ≠ r → H b = some o → H' b = some o
  g : Same G G'
  s : Same G' H'
  f : ∀ b, b ≠ r → G b = none → Ch (H b) → G' b = none
/-- the script, how far it is read, the seed, what is left of a big cell -/
def Row (K : PySem.W.Frag) (G H : Hp) (r : Addr) : Prop := ∃ (sv : V) (ns : List Int) (a b c : Int), H r = some (.lst [sv, .int a, .int b, .int c]) ∧ G r = none ∧ Dp K G sv (dL ns) ∧ 0 ≤ a ∧ (0 ≤ b ∧ b < 2147483647) ∧ 0 ≤ c
section
variable {K : PySem.W.Frag} {r p : Addr} {G H G' H' G2 H2 G0 H0 : Hp} {o : HO}
theorem Nxt.toR (n : Nxt G H G' H') : NxtR r G H G' H' := ⟨fun b o _ e => n.h b o e, n.g, n.s, fun b _ h1 h2 => n.f b h1 h2⟩
theorem Row.nxt (R : Row K G H r) (n : Nxt G H G' H') : Row K G' H' r := by
  obtain ⟨sv, ns, a, b, c, h1, h2, h3, h4⟩ := R
  have := n.stay h1 h2 trivial
  exact ⟨sv, ns, a, b, c, this.1, this.2, dp_mono n.g h3, h4⟩
theorem NxtR.refl (s : Same G H) : NxtR r G H G H := (Nxt.refl s).toR
theorem NxtR.trans (a : NxtR r G H G' H') (b : NxtR r G' H' G2 H2) : NxtR r G H G2 H2 := by
  refine ⟨fun c o n e => b.h c o n (a.h c o n e), a.g.trans b.g, b.s, fun c n h1 h2 => b.f c n (a.f c n h1 h2) ?_⟩
  cases e : H c with
  | none => rw [e] at h2; exact h2.elim
  | some o => rw [a.h c o n e, ← e]; exact h2
theorem NxtR.stay {b : Addr} {o : HO} (n : NxtR r G H G' H') (nr : b ≠ r) (hb : H b = some o) (hg : G b = none) (hm : Ch (some o)) : H' b = some o ∧ G' b = none := ⟨n.h b o nr hb, n.f b nr hg (by rw [hb]; exact hm)⟩
/-- an object that is new since G0, H0 is changed -/
theorem NxtR.mut (n : NxtR r G0 H0 G H) (h0 : H0 p = none) (hg : G p = none) : NxtR r G0 H0 G (upd H p o) :=
  ⟨fun b x nr e => by rw [upd_ne (ne_of_none e h0)]; exact n.h b x nr e, n.g, same_upd2 n.s hg, n.f⟩
/-- the row is changed -/
theorem NxtR.row (n : NxtR r G0 H0 G H) (hg : G r = none) : NxtR r G0 H0 G (upd H r o) :=
  ⟨fun b x nr e => by rw [upd_ne nr]; exact n.h b x nr e, n.g, same_upd2 n.s hg, n.f⟩
/-- a tracked object, new since G0, H0, is taken into G -/
theorem NxtR.take (n : NxtR r G0 H0 G H) (h : H p = some o) (hg : G p = none) (h0 : H0 p = none) : NxtR r G0 H0 (upd G p o) H := by
  refine ⟨n.h, n.g.trans (same_upd hg), fun b x e => ?_, fun b nr h1 h2 => ?_⟩
  · by_cases hb : b = p
    · subst hb; rw [upd_same] at e; rw [h]; exact e
    · rw [upd_ne hb] at e; exact n.s b x e
  · have hb : b ≠ p := fun e => by rw [e, h0] at h2; exact h2
    rw [upd_ne hb]
    exact n.f b nr h1 h2
theorem Row.ne {l : Addr} {xs : Option HO} (R : Row K G H r) (h : H l = none) : l ≠ r := fun e => by
  obtain ⟨sv, ns, a, b, c, h1, _⟩ := R
  rw [e, h1] at h; cases h
/-- a new object beside the row -/
theorem Row.new (R : Row K G H r) (h : H p = none) : Row K G (upd H p o) r := by
  obtain ⟨sv, ns, a, b, c, h1, h2⟩ := R
  exact ⟨sv, ns, a, b, c, by rw [upd_ne (ne_of_none h1 h)]; exact h1, h2⟩
theorem Row.upd (R : Row K G H r) (h : r ≠ p) : Row K G (upd H p o) r := by
  obtain ⟨sv, ns, a, b, c, h1, h2⟩ := R
  exact ⟨sv, ns, a, b, c, by rw [upd_ne h]; exact h1, h2⟩
theorem Row.g (R : Row K G H r) : G r = none := let ⟨_, _, _, _, _, _, h, _⟩ := R; h
theorem Row.ch (R : Row K G H r) : Ch (H r) := by
  obtain ⟨sv, ns, a, b, c, h1, _⟩ := R
  rw [h1]; trivial
theorem Row.take (R : Row K G H r) (hr : r ≠ p) (hg : G p = none) : Row K (L2.upd G p o) H r := by
  obtain ⟨sv, ns, a, b, c, h1, h2, h3, h4⟩ := R
  exact ⟨sv, ns, a, b, c, h1, by rw [upd_ne hr]; exact h2, dp_mono (same_upd hg) h3, h4⟩
end
def spR (K : PySem.W.Frag) (f : List PyData → (PyData → Prop) → Prop) : Sp := fun vs H Q _ => ∃ G r vs' ds P, vs = .ref r :: vs' ∧ Same G H ∧ Row K G H r ∧ DpAll K G vs' ds ∧ f ds P ∧ ∀ v d G' H', NxtR r G H G' H' → Row K G' H' r → P d → Dp K G' v d → Q v H'
section
variable {P : Program} {w : World} {K : PySem.W.Frag} {mg : Str → Option Value} {base : Heap} {f : Addr} {fd : FuncData}
def fTaken : List PyData → (PyData → Prop) → Prop := fun ds R => ∃ many : Int, ds = [.int many] ∧ (0 < many ∧ many ≤ 1000) ∧ ∀ v : Int, 0 ≤ v → v < many → R (.int v)
theorem ok_law_taken (B : Bl mg) (F : Fun K "_law_taken" "_law_taken" s_law_taken f fd) : FnOk P w K mg base CX0 1 f fd p_law_taken (spR K fTaken) := by
  refine F.ok sc_law_taken (fun vs H Q E h => ?_) (fun cdv A outer s H vs Q E hr h => ?_)
  · obtain ⟨G, r, vs', ds, R, rfl, _, _, dp, ⟨many, rfl, _⟩, _⟩ := h
    have := dpAll_len dp
    show (vs'.length + 1) = 2
    rw [this]; rfl
  · obtain ⟨G, r, vs', ds, R, rfl, sG, row, dp, ⟨many, rfl, hm, hR⟩, q⟩ := h
    obtain ⟨mv, rfl, dm⟩ := dp1 dp
    cases dm
    obtain ⟨sv, ns, a, b, c, hrow, gr, dsv, ha, hb, hc⟩ := row
    have hnd := sc_law_taken.nd
    refine ⟨_, pss_cons (ps_if (pt_cmpR op_gt (pe_ix ix_list (pv 0) pe_int (by exact fun _ _ => rfl)) pe_int (nomark _))
        (pss_cons (ps_set (i := 2) hnd rfl (.inl rfl) (pe_op op_mod (pe_callTy call_int1 rfl B.b_int bt_int (pa_cons (pe_ix ix_list (pv 0) pe_int (by exact fun _ _ => rfl)) pa_nil)) (pv 1)))
        (pss_cons (ps_asg (pe_op op_fdiv (pe_ix ix_list (pv 0) pe_int (by exact fun _ _ => rfl)) (pv 1)) (pg_sub (pv 0) pe_int set_list))
        (pss_one (ps_ret (pv 2))))) pss_nil)
      (pss_cons (ps_asg (pe_op op_add (pe_ix ix_list (pv 0) pe_int (by exact fun _ _ => rfl)) pe_int) (pg_sub (pv 0) pe_int set_list))
      (pss_cons (ps_if (pt_cmpR op_gt (pe_ix ix_list (pv 0) pe_int (by exact fun _ _ => rfl)) (pe_callB call_len rfl B.b_len boot_len (pa_cons (pe_ix ix_list (pv 0) pe_int (by exact fun _ _ => rfl)) pa_nil)) (nomark _))
        (pss_cons (ps_asg (pe_op op_mod (pe_callTy call_int1 rfl B.b_int bt_int (pa_cons (pe_op op_add (pe_op op_mul (pe_ix ix_list (pv 0) pe_int (by exact fun _ _ => rfl)) pe_int) pe_int) pa_nil)) pe_int) (pg_sub (pv 0) pe_int set_list))
        (pss_one (ps_ret (pe_op op_mod (pe_callTy call_int1 rfl B.b_int bt_int (pa_cons (pe_op op_fdiv (pe_ix ix_list (pv 0) pe_int (by exact fun _ _ => rfl)) pe_int) pa_nil)) (pv 1))))) pss_nil)
      (pss_cons (ps_set (i := 3) hnd rfl (.inl rfl) (pe_ix ix_list (pe_ix ix_list (pv 0) pe_int (by exact fun _ _ => rfl)) (pe_op op_sub (pe_ix ix_list (pv 0) pe_int (by exact fun _ _ => rfl)) pe_int) (by exact fun _ _ => rfl)))
      (pss_cons (ps_asg (pe_op op_mod (pe_callTy call_int1 rfl B.b_int bt_int (pa_cons (pe_op op_add (pe_op op_add (pe_op op_mul (pe_ix ix_list (pv 0) pe_int (by exact fun _ _ => rfl)) pe_int) (pv 3)) pe_int) pa_nil)) pe_int) (pg_sub (pv 0) pe_int set_list))
      (pss_cons (ps_if (pt_cmpR op_ge (pv 3) (pe_op op_pow pe_int pe_int) (nomark _))
        (pss_one (ps_asg (pe_op op_fdiv (pv 3) (pv 1)) (pg_sub (pv 0) pe_int set_list))) pss_nil)
      (pss_one (ps_ret (pe_op op_mod (pe_callTy call_int1 rfl B.b_int bt_int (pa_cons (pv 3) pa_nil)) (pv 1))))))))), ?_⟩
    have ix : ∀ (x0 x1 x2 x3 : V), atI [x0, x1, x2, x3] 0 = some x0 ∧ atI [x0, x1, x2, x3] 1 = some x1 ∧ atI [x0, x1, x2, x3] 2 = some x2 ∧ atI [x0, x1, x2, x3] 3 = some x3 := fun _ _ _ _ => ⟨rfl, rfl, rfl, rfl⟩
    have md : ∀ x : Int, 0 ≤ x % many ∧ x % many < many := fun x => ⟨Int.emod_nonneg _ (by omega), Int.emod_lt_of_pos _ hm.1⟩
    have md2 : ∀ x : Int, 0 ≤ x % 2147483647 ∧ x % 2147483647 < 2147483647 := fun x => ⟨Int.emod_nonneg _ (by decide), Int.emod_lt_of_pos _ (by decide)⟩
    obtain ⟨S, rfl, hS⟩ := ints_of dsv
    have n0 := NxtR.refl (r := r) sG
    refine q_seq ?_
    refine ⟨.ref r, rfl, r, _, 3, .int c, rfl, rfl, .inl (.inl hrow), (ix _ _ _ _).2.2.2, c, 0, rfl, rfl, _, rfl, ?_⟩
    by_cases hc0 : 0 < c
    · rw [decide_eq_true hc0]
      refine iteT ?_
      refine q_seq (q_set ?_)
      refine ⟨.ref r, rfl, r, _, 3, .int c, rfl, rfl, .inl (.inl hrow), (ix _ _ _ _).2.2.2, .inl ⟨c, rfl, .int many, rfl, c, many, rfl, rfl, hm.1, ?_⟩⟩
      dsimp only
      refine q_seq ?_
      refine ⟨.ref r, rfl, r, _, 3, .int c, rfl, rfl, .inl (.inl hrow), (ix _ _ _ _).2.2.2, .int many, rfl, c, many, rfl, rfl, ⟨hm.1, by omega⟩, .ref r, rfl, r, _, 3, 3, rfl, rfl, hrow, rfl, ?_⟩
      refine ⟨_, rfl, ?_⟩
      exact q (.int (c % many)) (.int (c % many)) G _ (n0.row gr) ⟨_, ns, a, b, c / many, upd_same, gr, dsv, ha, hb, Int.ediv_nonneg hc (by omega)⟩ (hR _ (md c).1 (md c).2) (.int _)
    · rw [decide_eq_false hc0]
      refine iteF ?_
      dsimp only
      refine q_seq ?_
      refine ⟨.ref r, rfl, r, _, 1, .int a, rfl, rfl, .inl (.inl hrow), (ix _ _ _ _).2.1, a, 1, rfl, rfl, .ref r, rfl, r, _, 1, 1, rfl, rfl, hrow, rfl, ?_⟩
      dsimp only
      have n1 := n0.row (o := .lst [V.ref S, .int (a + 1), .int b, .int c]) gr
      have hS1 : ∀ l, SqL K (upd H r (.lst l)) S (ns.map V.int) := fun l => (n0.row (o := .lst l) gr).s.seq hS
      have h1 : (upd H r (.lst [V.ref S, .int (a + 1), .int b, .int c])) r = some (.lst [V.ref S, .int (a + 1), .int b, .int c]) := upd_same
      refine q_seq ?_
      refine ⟨.ref r, rfl, r, _, 1, .int (a + 1), rfl, rfl, .inl (.inl h1), (ix _ _ _ _).2.1, .ref r, rfl, r, _, 0, .ref S, rfl, rfl, .inl (.inl h1), (ix _ _ _ _).1, .ref S, ns.length, rfl, .inl ⟨_, hS1 _, by simp⟩, a + 1, ns.length, rfl, rfl, _, rfl, ?_⟩
      by_cases hend : (ns.length : Int) < a + 1
      · rw [decide_eq_true hend]
        refine iteT ?_
        refine q_seq ?_
        refine ⟨.ref r, rfl, r, _, 2, .int b, rfl, rfl, .inl (.inl h1), (ix _ _ _ _).2.2.1, b, 48271, rfl, rfl, .inr ⟨by decide, by decide⟩, _, 11, rfl, rfl, .inl ⟨_, rfl, _, 2147483647, rfl, rfl, (by decide : (0 : Int) < 2147483647), .ref r, rfl, r, _, 2, 2, rfl, rfl, h1, rfl, ?_⟩⟩
        dsimp only
        have h2 : (upd (upd H r (.lst [V.ref S, .int (a + 1), .int b, .int c])) r (.lst [V.ref S, .int (a + 1), .int ((b * 48271 + 11) % 2147483647), .int c])) r = some (.lst [V.ref S, .int (a + 1), .int ((b * 48271 + 11) % 2147483647), .int c]) := upd_same
        refine q_ret ?_
        refine ⟨.ref r, rfl, r, _, 2, .int ((b * 48271 + 11) % 2147483647), rfl, rfl, .inl (.inl h2), (ix _ _ _ _).2.2.1, _, 7, rfl, rfl, ⟨by decide, by decide⟩, .inl ⟨_, rfl, .int many, rfl, _, many, rfl, rfl, hm.1, ?_⟩⟩
        have hb2 := md2 (b * 48271 + 11)
        exact q (.int _) (.int _) G _ (n1.row gr) ⟨_, ns, a + 1, (b * 48271 + 11) % 2147483647, c, upd_same, gr, dsv, by omega, hb2, hc⟩ (hR _ (md _).1 (md _).2) (.int _)
      · rw [decide_eq_false hend]
        refine iteF ?_
        unfold tNext
        dsimp only
        have hk : a.toNat < ns.length := by omega
        have hcell : atI (ns.map V.int) (a + 1 - 1) = some (.int ns[a.toNat]) := by
          have e : a + 1 - 1 = ((a.toNat : Nat) : Int) := by omega
          rw [e]
          refine atI_nat ?_
          rw [List.getElem?_map, List.getElem?_eq_getElem hk]; rfl
        generalize ns[a.toNat] = cell at hcell
        refine q_seq (q_set ?_)
        refine ⟨.ref r, rfl, r, _, 0, .ref S, rfl, rfl, .inl (.inl h1), (ix _ _ _ _).1, .ref r, rfl, r, _, 1, .int (a + 1), rfl, rfl, .inl (.inl h1), (ix _ _ _ _).2.1, a + 1, 1, rfl, rfl, S, _, a + 1 - 1, .int cell, rfl, rfl, hS1 _, hcell, ?_⟩
        dsimp only
        refine q_seq ?_
        refine ⟨.ref r, rfl, r, _, 2, .int b, rfl, rfl, .inl (.inl h1), (ix _ _ _ _).2.2.1, b, 48271, rfl, rfl, .inr ⟨by decide, by decide⟩, .int cell, rfl, _, cell, rfl, rfl, _, 11, rfl, rfl, .inl ⟨_, rfl, _, 2147483647, rfl, rfl, (by decide : (0 : Int) < 2147483647), .ref r, rfl, r, _, 2, 2, rfl, rfl, h1, rfl, ?_⟩⟩
        dsimp only
        have hb2 := md2 (b * 48271 + cell + 11)
        have h2 : (upd (upd H r (.lst [V.ref S, .int (a + 1), .int b, .int c])) r (.lst [V.ref S, .int (a + 1), .int ((b * 48271 + cell + 11) % 2147483647), .int c])) r = some (.lst [V.ref S, .int (a + 1), .int ((b * 48271 + cell + 11) % 2147483647), .int c]) := upd_same
        have n2 := n1.row (o := .lst [V.ref S, .int (a + 1), .int ((b * 48271 + cell + 11) % 2147483647), .int c]) gr
        refine q_seq ?_
        refine ⟨.int cell, rfl, 10, 18, rfl, rfl, ⟨by decide, by decide, by decide⟩, cell, _, rfl, rfl, _, rfl, ?_⟩
        by_cases hbig : ((10 : Int) ^ (18 : Int).toNat) ≤ cell
        · rw [decide_eq_true hbig]
          refine iteT ?_
          have hpos : (0 : Int) ≤ cell := Int.le_trans (by decide) hbig
          refine ⟨.int cell, rfl, .int many, rfl, cell, many, rfl, rfl, ⟨hm.1, by omega⟩, .ref r, rfl, r, _, 3, 3, rfl, rfl, h2, rfl, ?_⟩
          dsimp only
          refine q_ret ?_
          refine ⟨.int cell, rfl, .inl ⟨cell, rfl, .int many, rfl, cell, many, rfl, rfl, hm.1, ?_⟩⟩
          exact q (.int _) (.int _) G _ (n2.row gr) ⟨_, ns, a + 1, (b * 48271 + cell + 11) % 2147483647, cell / many, upd_same, gr, dsv, by omega, hb2, Int.ediv_nonneg hpos (by omega)⟩ (hR _ (md _).1 (md _).2) (.int _)
        · rw [decide_eq_false hbig]
          refine iteF ?_
          dsimp only
          refine q_ret ?_
          refine ⟨.int cell, rfl, .inl ⟨cell, rfl, .int many, rfl, cell, many, rfl, rfl, hm.1, ?_⟩⟩
          exact q (.int _) (.int _) G _ n2 ⟨_, ns, a + 1, (b * 48271 + cell + 11) % 2147483647, c, upd_same, gr, dsv, by omega, hb2, hc⟩ (hR _ (md _).1 (md _).2) (.int _)
end
end TW
/-! TWO: reading expressions and blocks that draw. -/
namespace TW
open PySem PySem.Spec PyProof.Rows L2
def tR (K : PySem.W.Frag) (ρ : DEnv) (i : Nat) (P : PyData → Prop) : TE := fun σ H Q => ∃ G r, σ[i]? = some (some (.ref r)) ∧ Same G H ∧ Row K G H r ∧ EnvD K G σ ρ ∧ ∀ v d G' H', NxtR r G H G' H' → Row K G' H' r → P d → Dp K G' v d → Q v H'
def tRs (K : PySem.W.Frag) (ρ : DEnv) (i : Nat) (P : List PyData → Prop) : TA := fun σ H Q => ∃ G r, σ[i]? = some (some (.ref r)) ∧ Same G H ∧ Row K G H r ∧ EnvD K G σ ρ ∧ ∀ vs ds G' H', NxtR r G H G' H' → Row K G' H' r → P ds → DpAll K G' vs ds → Q vs H'
def tRb (K : PySem.W.Frag) (ρ : DEnv) (i : Nat) (P : PyData → Prop) : TS := fun D σ H => ∃ G r, σ[i]? = some (some (.ref r)) ∧ Same G H ∧ Row K G H r ∧ EnvD K G σ ρ ∧ ∀ v d G' H', NxtR r G H G' H' → Row K G' H' r → P d → Dp K G' v d → D.rt v H'
def tRn (K : PySem.W.Frag) (ρ : DEnv) (i : Nat) (S : DEnv → Prop) : TS := fun D σ H => ∃ G r, σ[i]? = some (some (.ref r)) ∧ Same G H ∧ Row K G H r ∧ EnvD K G σ ρ ∧ ∀ σ' ρ' G' H', σ'[i]? = some (some (.ref r)) → NxtR r G H G' H' → Row K G' H' r → S ρ' → EnvD K G' σ' ρ' → D.nx σ' H'
def tRi (K : PySem.W.Frag) (ρ : DEnv) (i : Nat) (P : List PyData → Prop) : TI := fun σ H R => ∃ G r, σ[i]? = some (some (.ref r)) ∧ Same G H ∧ Row K G H r ∧ EnvD K G σ ρ ∧ ∀ J ds G' H', NxtR r G H G' H' → Row K G' H' r → P ds → IsIt K J G' ds → R J H'
abbrev DrR (X : Cx) (e : Expr) (ρ : DEnv) (i : Nat) (P : PyData → Prop) : Prop := PE X e (tR X.K ρ i P)
abbrev DrAs (X : Cx) (es : List Expr) (ρ : DEnv) (i : Nat) (P : List PyData → Prop) : Prop := PA X es (tRs X.K ρ i P)
abbrev Dr (X : Cx) (sts : List Stmt) (ρ : DEnv) (i : Nat) (P : PyData → Prop) : Prop := PSs X sts (tRb X.K ρ i P)
abbrev Drn (X : Cx) (sts : List Stmt) (ρ : DEnv) (i : Nat) (S : DEnv → Prop) : Prop := PSs X sts (tRn X.K ρ i S)
section
variable {X : Cx} {ρ : DEnv} {i k j : Nat} {e a b c tg iter : Expr} {es : List Expr} {P Q R : PyData → Prop} {Ps : List PyData → Prop} {pos p p2 : Pos} {x : Str} {ps : List Str} {f : List PyData → (PyData → Prop) → Prop} {st : Stmt} {rest body orelse : List Stmt} {S S1 : DEnv → Prop} {y : Bool}
/-- what does not draw -/
theorem dr_of (h : DeR X e ρ P) : DrR X e ρ i P := pe_wk h fun σ H Q ⟨G, r, hi, s, row, en, q⟩ => ⟨G, s, en, fun v d G' H' n pd dp => q v d G' H' n.toR (row.nxt n) pd dp⟩
theorem dr_imp (h : DrR X e ρ i P) (w : ∀ d, P d → R d) : DrR X e ρ i R := pe_wk h fun σ H Q ⟨G, r, hi, s, row, en, q⟩ => ⟨G, r, hi, s, row, en, fun v d G' H' n ro pd dp => q v d G' H' n ro (w d pd) dp⟩
theorem dra_nil : DrAs X [] ρ i (fun ds => ds = []) := pa_wk pa_nil fun σ H Q ⟨G, r, hi, s, row, en, q⟩ => q [] [] G H (.refl s) row rfl .nil
theorem dra_cons (ha : DrR X e ρ i P) (hr : DrAs X es ρ i Ps) (hs : starEach (e :: es) X.env = (false, eval e X.env) :: starEach es X.env := by rfl) : DrAs X (e :: es) ρ i (fun ds => ∃ d ds', P d ∧ Ps ds' ∧ ds = d :: ds') := by
  refine pa_wk (pa_cons ha hr hs) ?_
  rintro σ H Q ⟨G, r, hi, s, row, en, q⟩
  refine ⟨G, r, hi, s, row, en, fun v d G1 H1 n1 ro1 p1 d1 => ⟨G1, r, hi, n1.s, ro1, en.mono n1.g, fun vs ds G2 H2 n2 ro2 p2 d2 => ?_⟩⟩
  exact q (v :: vs) (d :: ds) G2 H2 (n1.trans n2) ro2 ⟨d, ds, p1, p2, rfl⟩ (.cons (dp_mono n2.g d1) d2)
theorem dra_imp {Rs : List PyData → Prop} (h : DrAs X es ρ i Ps) (w : ∀ ds, Ps ds → Rs ds) : DrAs X es ρ i Rs := pa_wk h fun σ H Q ⟨G, r, hi, s, row, en, q⟩ => ⟨G, r, hi, s, row, en, fun v d G' H' n ro pd dp => q v d G' H' n ro (w d pd) dp⟩
theorem dra_of (h : DasR X es ρ Ps) : DrAs X es ρ i Ps := pa_wk h fun σ H Q ⟨G, r, hi, s, row, en, q⟩ => ⟨G, s, en, fun v d G' H' n pd dp => q v d G' H' n.toR (row.nxt n) pd dp⟩
/-- a call with the row ahead -/
theorem dr_call {pn : Pos} {rn : Str} (C : Cal X.prog X.w X.K X.mg X.base k x ps (spR X.K f)) (hr : Room j X.A) (hk : k ≤ j) (hv : PE X (.Name rn pn) (tVar i)) (ha : DrAs X es ρ i Ps) (hf : ∀ ds, Ps ds → f ds R) (hg : Gl X x := by rfl) (hdb : (x == ("__debug__" : Str)) = false := by decide)
    (he : starEach (.Name rn pn :: es) X.env = (false, eval (.Name rn pn) X.env) :: starEach es X.env := by rfl) (hpl : (backTo pos (starEach es X.env)).any (·.1) = false := by rfl) : DrR X (.Call (.Name x p) (.Name rn pn :: es) [] pos) ρ i R := by
  refine pe_wk (pe_callRaw C hr hk (pa_cons hv ha he) hg hdb he hpl) ?_
  rintro σ H Q ⟨G, r, hi, s, row, en, q⟩
  refine ⟨.ref r, hi, G, r, hi, s, row, en, fun vs ds G1 H1 n1 ro1 p1 d1 => ?_⟩
  exact ⟨G1, r, vs, ds, R, rfl, n1.s, ro1, d1, hf ds p1, fun v d G' H' n ro pd dp => q v d G' H' (n1.trans n) ro pd dp⟩
/-- operators -/
theorem t_opR {r2 : R2} {K : PySem.W.Frag} (hr : RD2 K r2 P Q R) : ∀ σ H k, tR K ρ i R σ H k → tOp r2 (tR K ρ i P) (tR K ρ i Q) σ H k := by
  rintro σ H k ⟨G, r, hi, s, row, en, q⟩
  refine ⟨G, r, hi, s, row, en, fun x dx G1 H1 n1 ro1 p1 d1 => ⟨G1, r, hi, n1.s, ro1, en.mono n1.g, fun y dy G2 H2 n2 ro2 p2 d2 => ?_⟩⟩
  exact hr x y dx dy G2 H2 p1 p2 n2.s (dp_mono n2.g d1) d2 k fun v d G' H' n pd dp => q v d G' H' ((n1.trans n2).trans n.toR) (ro2.nxt n) pd dp
theorem dr_op {op : Operator} {r : R2} (ho : OpR X (binaryOp op) r) (hr : RD2 X.K r P Q R) (ha : DrR X a ρ i P) (hb : DrR X b ρ i Q) : DrR X (.BinOp a op b pos) ρ i R := pe_wk (pe_op ho ha hb) (t_opR hr)
/-- ints told by a property -/
theorem rd_IP {C : Int → Int → Prop} {g : Int → Int → Int} {K : PySem.W.Frag} {A B D : Int → Prop} (h : ∀ x y, A x → B y → C x y ∧ D (g x y)) : RD2 K (rI C fun i j => .int (g i j)) (fun d => ∃ v : Int, A v ∧ d = .int v) (fun d => ∃ v : Int, B v ∧ d = .int v) (fun d => ∃ v : Int, D v ∧ d = .int v) := by
  rintro x y _ _ G H ⟨u, hu, rfl⟩ ⟨v, hv, rfl⟩ s hx hy k q
  cases hx; cases hy
  exact ⟨u, v, rfl, rfl, (h u v hu hv).1, q _ _ G H (Nxt.refl s) ⟨_, (h u v hu hv).2, rfl⟩ (.int _)⟩
theorem rd_I0P {g : Int → Int → Int} {K : PySem.W.Frag} {A B D : Int → Prop} (h : ∀ x y, A x → B y → D (g x y)) : RD2 K (rI0 fun i j => .int (g i j)) (fun d => ∃ v : Int, A v ∧ d = .int v) (fun d => ∃ v : Int, B v ∧ d = .int v) (fun d => ∃ v : Int, D v ∧ d = .int v) := by
  rintro x y _ _ G H ⟨u, hu, rfl⟩ ⟨v, hv, rfl⟩ s hx hy k q
  cases hx; cases hy
  exact ⟨u, v, rfl, rfl, q _ _ G H (Nxt.refl s) ⟨_, h u v hu hv, rfl⟩ (.int _)⟩
theorem rd_ixLP {K : PySem.W.Frag} (h : ∀ dx dy, P dx → Q dy → ∃ ds n d, dx = .list ds ∧ dy = .int n ∧ atI ds n = some d ∧ R d) : RD2 K (rIxL K) P Q R := by
  rintro x y dx dy G H pd qd s hx hy k q
  obtain ⟨ds, n, d, rfl, rfl, ha, hR⟩ := h dx dy pd qd
  cases hy
  obtain ⟨t, xs, rfl, h1, h2⟩ := dp_lst_inv hx
  obtain ⟨v, e1, e2⟩ := atI_dp h2 ha
  exact ⟨t, xs, n, v, rfl, rfl, s.seq h1, e1, q v d G H (Nxt.refl s) hR e2⟩
theorem dr_ixL (ha : DrR X a ρ i P) (hb : DrR X b ρ i Q) (h : ∀ dx dy, P dx → Q dy → ∃ ds n d, dx = .list ds ∧ dy = .int n ∧ atI ds n = some d ∧ R d) (hs : PlainIx b := by exact fun _ _ => rfl) : DrR X (.Subscript a b pos) ρ i R := pe_wk (pe_ix ix_list ha hb hs) (t_opR (rd_ixLP h))
theorem dr_lst (h : DrAs X es ρ i Ps) (hz : ∀ ds, Ps ds → ds.length ≤ sizeLine) : DrR X (.List es pos) ρ i (fun d => ∃ ds, Ps ds ∧ d = .list ds) := by
  refine pe_wk (pe_lst h) ?_
  rintro σ H Q ⟨G, r, hi, s, row, en, q⟩
  refine ⟨G, r, hi, s, row, en, fun vs ds G1 H1 n1 ro1 p1 d1 => ⟨by rw [dpAll_len d1]; exact hz ds p1, fun l hl => ?_⟩⟩
  have n2 := Nxt.new (o := .lst vs) n1.s hl
  exact q _ _ _ _ (n1.trans n2.toR) (ro1.nxt n2) ⟨ds, p1, rfl⟩ (.lst (.inl (.inl upd_same)) (dpAll_mono n2.g d1))
theorem dr_tup {x1} (h : DrAs X es ρ i Ps) (hz : ∀ ds, Ps ds → ds.length ≤ sizeLine) : DrR X (.Tuple es x1 pos) ρ i (fun d => ∃ ds, Ps ds ∧ d = .tuple ds) := by
  refine pe_wk (pe_tup h) ?_
  rintro σ H Q ⟨G, r, hi, s, row, en, q⟩
  refine ⟨G, r, hi, s, row, en, fun vs ds G1 H1 n1 ro1 p1 d1 => ⟨by rw [dpAll_len d1]; exact hz ds p1, fun l hl => ?_⟩⟩
  have n2 := Nxt.new (o := .tup vs) n1.s hl
  exact q _ _ _ _ (n1.trans n2.toR) (ro1.nxt n2) ⟨ds, p1, rfl⟩ (.tup upd_same (dpAll_mono n2.g d1))
/-! blocks -/
theorem drb_ret (h : DrR X e ρ i R) : Dr X [.Return (some e) pos] ρ i R := pss_wk (pss_one (ps_ret h)) fun D σ H ⟨G, r, hi, s, row, en, q⟩ => ⟨G, r, hi, s, row, en, q⟩
theorem drb_asg {idx : Nat} (ne : idx ≠ i) (h : PS X st (tAsg (tR X.K ρ i P) (gName idx))) (hr : ∀ d, P d → Dr X rest (ρ.set idx (some d)) i R) : Dr X (st :: rest) ρ i R := by
  refine pss_wk (pss_cons h (pss_ex hr)) ?_
  rintro D σ H ⟨G, r, hi, s, row, en, q⟩
  refine ⟨G, r, hi, s, row, en, fun v d G1 H1 n1 ro1 pd dp => ?_⟩
  exact ⟨d, pd, G1, r, by rw [List.getElem?_set_ne ne]; exact hi, n1.s, ro1, (en.mono n1.g).set dp, fun v' d' G' H' n ro pd' dp' => q v' d' G' H' (n1.trans n) ro pd' dp'⟩
theorem drb_set (idx : Nat) {x : Str} {px : Pos} (ne : idx ≠ i) (hN : X.N.Nodup) (h : DrR X e ρ i P) (hr : ∀ d, P d → Dr X rest (ρ.set idx (some d)) i R) (hi : X.N[idx]? = some x := by rfl) (hx : Loc X.env.scope x := by first | exact Or.inl rfl | exact Or.inr rfl) (hf : X.fn x = true ∨ X.env.scope.names.lookup x = some .local := by first | exact .inl rfl | exact .inr rfl)
    (hs : swapsWithSole [.Name x px] e pos.line X.env = pure false := by rfl) (hw : swappedStores [.Name x px] e X.env = pure none := by rfl) (h1 : (assignEach [.Name x px] X.env).map (·.2) = [assign (.Name x px) X.env] := by rfl) : Dr X (.Assign [.Name x px] e pos :: rest) ρ i R :=
  drb_asg ne (ps_asg h (pg_name hN hi hx hf) hs hw h1) hr
theorem drb_if (hc : Dt X c ρ y) (hb : y = true → Dr X body ρ i R) (hr : y = false → Dr X rest ρ i R) : Dr X (.If c body [] pos :: rest) ρ i R := by
  cases y with
  | true =>
    refine pss_wk (pss_cons (ps_if hc (hb rfl) pss_nil) pss_never) ?_
    rintro D σ H ⟨G, r, hi, s, row, en, q⟩
    refine ⟨G, s, en, fun G1 H1 n1 => iteT ?_⟩
    exact ⟨G1, r, hi, n1.s, row.nxt n1, en.mono n1.g, fun v' d' G' H' n ro pd' dp' => q v' d' G' H' (n1.toR.trans n) ro pd' dp'⟩
  | false =>
    refine pss_wk (pss_cons (ps_if hc pss_never pss_nil) (hr rfl)) ?_
    rintro D σ H ⟨G, r, hi, s, row, en, q⟩
    refine ⟨G, s, en, fun G1 H1 n1 => iteF ?_⟩
    exact ⟨G1, r, hi, n1.s, row.nxt n1, en.mono n1.g, fun v' d' G' H' n ro pd' dp' => q v' d' G' H' (n1.toR.trans n) ro pd' dp'⟩
theorem drb_imp {sts : List Stmt} (h : Dr X sts ρ i P) (w : ∀ d, P d → R d) : Dr X sts ρ i R := pss_wk h fun D σ H ⟨G, r, hi, s, row, en, q⟩ => ⟨G, r, hi, s, row, en, fun v d G' H' n ro pd dp => q v d G' H' n ro (w d pd) dp⟩
/-! blocks that go on -/
theorem drn_nil (h : S ρ) : Drn X [] ρ i S := pss_wk pss_nil fun D σ H ⟨G, r, hi, s, row, en, q⟩ => q σ ρ G H hi (.refl s) row h en
theorem drn_asg {idx : Nat} (ne : idx ≠ i) (h : PS X st (tAsg (tR X.K ρ i P) (gName idx))) (hr : ∀ d, P d → Drn X rest (ρ.set idx (some d)) i S) : Drn X (st :: rest) ρ i S := by
  refine pss_wk (pss_cons h (pss_ex hr)) ?_
  rintro D σ H ⟨G, r, hi, s, row, en, q⟩
  refine ⟨G, r, hi, s, row, en, fun v d G1 H1 n1 ro1 pd dp => ?_⟩
  exact ⟨d, pd, G1, r, by rw [List.getElem?_set_ne ne]; exact hi, n1.s, ro1, (en.mono n1.g).set dp, fun σ' ρ' G' H' h' n ro hS en' => q σ' ρ' G' H' h' (n1.trans n) ro hS en'⟩
theorem drn_set (idx : Nat) {x : Str} {px : Pos} (ne : idx ≠ i) (hN : X.N.Nodup) (h : DrR X e ρ i P) (hr : ∀ d, P d → Drn X rest (ρ.set idx (some d)) i S) (hi : X.N[idx]? = some x := by rfl) (hx : Loc X.env.scope x := by first | exact Or.inl rfl | exact Or.inr rfl) (hf : X.fn x = true ∨ X.env.scope.names.lookup x = some .local := by first | exact .inl rfl | exact .inr rfl)
    (hs : swapsWithSole [.Name x px] e pos.line X.env = pure false := by rfl) (hw : swappedStores [.Name x px] e X.env = pure none := by rfl) (h1 : (assignEach [.Name x px] X.env).map (·.2) = [assign (.Name x px) X.env] := by rfl) : Drn X (.Assign [.Name x px] e pos :: rest) ρ i S :=
  drn_asg ne (ps_asg h (pg_name hN hi hx hf) hs hw h1) hr
theorem drn_if (hc : Dt X c ρ y) (ha : y = true → Drn X body ρ i S1) (hb : y = false → Drn X orelse ρ i S1) (hr : ∀ ρ', S1 ρ' → Drn X rest ρ' i S) : Drn X (.If c body orelse pos :: rest) ρ i S := by
  cases y with
  | true =>
    refine pss_wk (pss_cons (ps_if hc (ha rfl) pss_never) (pss_ex hr)) ?_
    rintro D σ H ⟨G, r, hi, s, row, en, q⟩
    refine ⟨G, s, en, fun G1 H1 n1 => iteT ?_⟩
    exact ⟨G1, r, hi, n1.s, row.nxt n1, en.mono n1.g, fun σ2 ρ2 G2 H2 h2 n2 ro2 hS2 en2 => ⟨ρ2, hS2, G2, r, h2, n2.s, ro2, en2, fun σ' ρ' G' H' h' n ro hS en' => q σ' ρ' G' H' h' ((n1.toR.trans n2).trans n) ro hS en'⟩⟩
  | false =>
    refine pss_wk (pss_cons (ps_if hc pss_never (hb rfl)) (pss_ex hr)) ?_
    rintro D σ H ⟨G, r, hi, s, row, en, q⟩
    refine ⟨G, s, en, fun G1 H1 n1 => iteF ?_⟩
    exact ⟨G1, r, hi, n1.s, row.nxt n1, en.mono n1.g, fun σ2 ρ2 G2 H2 h2 n2 ro2 hS2 en2 => ⟨ρ2, hS2, G2, r, h2, n2.s, ro2, en2, fun σ' ρ' G' H' h' n ro hS en' => q σ' ρ' G' H' h' ((n1.toR.trans n2).trans n) ro hS en'⟩⟩
theorem drb_if2 (hc : Dt X c ρ y) (ha : y = true → Drn X body ρ i S1) (hb : y = false → Drn X orelse ρ i S1) (hr : ∀ ρ', S1 ρ' → Dr X rest ρ' i R) : Dr X (.If c body orelse pos :: rest) ρ i R := by
  cases y with
  | true =>
    refine pss_wk (pss_cons (ps_if hc (ha rfl) pss_never) (pss_ex hr)) ?_
    rintro D σ H ⟨G, r, hi, s, row, en, q⟩
    refine ⟨G, s, en, fun G1 H1 n1 => iteT ?_⟩
    exact ⟨G1, r, hi, n1.s, row.nxt n1, en.mono n1.g, fun σ2 ρ2 G2 H2 h2 n2 ro2 hS2 en2 => ⟨ρ2, hS2, G2, r, h2, n2.s, ro2, en2, fun v d G' H' n ro pd dp => q v d G' H' ((n1.toR.trans n2).trans n) ro pd dp⟩⟩
  | false =>
    refine pss_wk (pss_cons (ps_if hc pss_never (hb rfl)) (pss_ex hr)) ?_
    rintro D σ H ⟨G, r, hi, s, row, en, q⟩
    refine ⟨G, s, en, fun G1 H1 n1 => iteF ?_⟩
    exact ⟨G1, r, hi, n1.s, row.nxt n1, en.mono n1.g, fun σ2 ρ2 G2 H2 h2 n2 ro2 hS2 en2 => ⟨ρ2, hS2, G2, r, h2, n2.s, ro2, en2, fun v d G' H' n ro pd dp => q v d G' H' ((n1.toR.trans n2).trans n) ro pd dp⟩⟩
/-! loops -/
theorem t_forR {K : PySem.W.Frag} {Pl : List PyData → Prop} {g : TG} {tb : TS} {D : Ends} {σ : L2.St} {G H : Hp} {r : Addr} (hi : σ[i]? = some (some (.ref r))) (sG : Same G H) (row : Row K G H r) (en : EnvD K G σ ρ) (Iv : List PyData → Nat → L2.St → Hp → Hp → Prop)
    (h0 : ∀ ds G' H', Pl ds → NxtR r G H G' H' → Row K G' H' r → Iv ds 0 σ G' H')
    (hN : ∀ ds k σ2 G2 H2 G3 H3, Pl ds → Iv ds k σ2 G2 H2 → Nxt G2 H2 G3 H3 → Iv ds k σ2 G3 H3)
    (hs : ∀ ds (k : Nat) d x σ2 G2 H2, Pl ds → ds[k]? = some d → Iv ds k σ2 G2 H2 → Same G G2 → Same G2 H2 → Dp K G2 x d → ∀ N : L2.St → Hp → Prop, (∀ σ4 G4 H4, Same G2 G4 → Same G4 H4 → Iv ds (k + 1) σ4 G4 H4 → N σ4 H4) →
      g x σ2 H2 fun σ3 H3 => tb { D with nx := N, ct := N, bk := D.nx } σ3 H3)
    (hd : ∀ ds σ2 G2 H2, Pl ds → Iv ds ds.length σ2 G2 H2 → Same G G2 → Same G2 H2 → D.nx σ2 H2) : tFor (tRi K ρ i Pl) g tb D σ H := by
  refine ⟨G, r, hi, sG, row, en, fun J ds G1 H1 n1 ro1 pd it => ?_⟩
  exact t_forJ it n1.s (fun k σ2 G2 H2 => Iv ds k σ2 G2 H2) (h0 ds G1 H1 pd n1 ro1) (fun k σ2 G2 H2 G3 H3 iv n => hN ds k σ2 G2 H2 G3 H3 pd iv n)
    (fun k d x σ2 G2 H2 hd iv s1 s2 dx N hN' => hs ds k d x σ2 G2 H2 pd hd iv (n1.g.trans s1) s2 dx N hN') fun σ2 G2 H2 iv s1 s2 => hd ds σ2 G2 H2 pd iv (n1.g.trans s1) s2
theorem dri_of {Pl : List PyData → Prop} (h : Di X tg iter ρ Pl) : PI X tg iter (tRi X.K ρ i Pl) := pi_wk h fun σ H R ⟨G, r, hi, s, row, en, q⟩ => ⟨G, s, en, fun J ds G' H' n pd it => q J ds G' H' n.toR (row.nxt n) pd it⟩
theorem dri_range1 {A : Nat → Prop} (hm : X.mg "range" = none) (h : DrR X a ρ i (fun d => ∃ v : Int, (0 ≤ v ∧ v ≤ 1000 ∧ A v.toNat) ∧ d = .int v)) (hg : Gl X "range" := by rfl) (hs : starEach [a] X.env = (false, eval a X.env) :: starEach [] X.env := by rfl) (hs2 : starEach [a] X.env = [(false, eval a X.env)] := by rfl) :
    PI X tg (.Call (.Name "range" p) [a] [] pos) (tRi X.K ρ i (fun ds => ∃ n : Nat, A n ∧ n ≤ 1000 ∧ ds = rngP 0 n)) := by
  refine pi_wk (pi_range1 hg hm (dra_cons h dra_nil hs) hs2) ?_
  rintro σ H R ⟨G, r, hi, s, row, en, q⟩
  refine ⟨G, r, hi, s, row, en, fun xs ds G1 H1 n1 ro1 p1 d1 => ?_⟩
  obtain ⟨d, ds', ⟨v, ⟨h0, h1, hA⟩, rfl⟩, rfl, rfl⟩ := p1
  obtain ⟨v', rfl, dv⟩ := dp1 d1
  cases dv
  refine ⟨v, rfl, by omega, by omega, q _ _ G1 H1 n1 ro1 ⟨v.toNat, hA, by omega, rfl⟩ ?_⟩
  have e : (v - 0).toNat = v.toNat := by omega
  first | exact isIt_range | (rw [e]; exact isIt_range)
theorem drb_for (tv : Nat) {Pl : List PyData → Prop} (I : List PyData → Nat → DEnv → Prop) (ne : tv ≠ i) (hp : PassesOwn (model X.prog X.w) X.A X.env X.xe) (hc : X.calm = true) (hi : PI X tg iter (tRi X.K ρ i Pl)) (hg : PG X tg (gName tv))
    (hb : ∀ ds k d ρ1, Pl ds → ds[k]? = some d → I ds k ρ1 → Drn X body (ρ1.set tv (some d)) i (I ds (k + 1))) (h0 : ∀ ds, Pl ds → I ds 0 ρ) (hr : ∀ ds ρ1, Pl ds → I ds ds.length ρ1 → Dr X rest ρ1 i R)
    (hs : ∀ x, foldedSetIterable iter X.env x = pure x := by intro _; rfl) : Dr X (.For tg iter body [] pos :: rest) ρ i R := by
  have hbody : PSs X body (fun D σ H => ∃ (z : List PyData × Nat × PyData × DEnv), (Pl z.1 ∧ z.1[z.2.1]? = some z.2.2.1 ∧ I z.1 z.2.1 z.2.2.2) ∧ tRn X.K (z.2.2.2.set tv (some z.2.2.1)) i (I z.1 (z.2.1 + 1)) D σ H) := pss_ex fun z hz => hb z.1 z.2.1 z.2.2.1 z.2.2.2 hz.1 hz.2.1 hz.2.2
  have hrest : PSs X rest (fun D σ H => ∃ (z : List PyData × DEnv), (Pl z.1 ∧ I z.1 z.1.length z.2) ∧ tRb X.K z.2 i R D σ H) := pss_ex fun z hz => hr z.1 z.2 hz.1 hz.2
  refine pss_wk (pss_cons (ps_for hp hc hi hg hbody hs) hrest) ?_
  rintro D σ H ⟨G, r, hir, s, row, en, q⟩
  refine q_seq (t_forR hir s row en (fun ds k σ2 G2 H2 => ∃ ρ1, I ds k ρ1 ∧ EnvD X.K G2 σ2 ρ1 ∧ σ2[i]? = some (some (.ref r)) ∧ NxtR r G H G2 H2 ∧ Row X.K G2 H2 r) ?_ ?_ ?_ ?_)
  · exact fun ds G' H' pd n ro => ⟨ρ, h0 ds pd, en.mono n.g, hir, n, ro⟩
  · exact fun ds k σ2 G2 H2 G3 H3 pd ⟨ρ1, h1, e1, e2, n1, ro⟩ n => ⟨ρ1, h1, e1.mono n.g, e2, n1.trans n.toR, ro.nxt n⟩
  · rintro ds k d x σ2 G2 H2 pd hd ⟨ρ1, h1, e1, e2, n1, ro⟩ g2 s2 dx N hN
    refine ⟨(ds, k, d, ρ1), ⟨pd, hd, h1⟩, G2, r, by rw [List.getElem?_set_ne ne]; exact e2, s2, ro, e1.set dx, fun σ' ρ' G' H' h' n ro' hS en' => ?_⟩
    exact hN σ' G' H' n.g n.s ⟨ρ', hS, en', h', n1.trans n, ro'⟩
  · rintro ds σ2 G2 H2 pd ⟨ρ1, h1, e1, e2, n1, ro⟩ g2 s2
    exact ⟨(ds, ρ1), ⟨pd, h1⟩, G2, r, e2, s2, ro, e1, fun v d G' H' n ro' pd dp => q v d G' H' (n1.trans n) ro' pd dp⟩
end
section
variable {P : Program} {w : World} {K : PySem.W.Frag} {mg : Str → Option Value} {base : Heap} {f : Addr} {fd : FuncData}
theorem fun_r {x qual : Str} {st : Stmt} {f : Addr} {fd : FuncData} {N ps : List Str} {k : Nat} {fD : List PyData → (PyData → Prop) → Prop} (F : Fun K x qual st f fd) (S : FnScope N ps (defScope st)) (len : ∀ ds R, fD ds R → ds.length + 1 = ps.length)
    (hb : ∀ (cdv : Value) (A : Around) (outer : List Env) (s : Shared) (H : Hp) (E : XK), Room k (A.deeper (envOfC qual (defScope st) s.heap.objs.size f cdv)) → ∀ ds R, fD ds R → Dr (cxD P w K mg base N qual st f cdv A outer s H E) (defBody st) (none :: (ds.map some ++ List.replicate (N.length - (ds.length + 1)) none)) 0 R) :
    FnOk P w K mg base CX0 (k + 1) f fd ps (spR K fD) := by
  refine F.ok S (fun vs H Q E h => ?_) (fun cdv A outer s H vs Q E hr h => ?_)
  · obtain ⟨G, r, vs', ds, R, rfl, _, _, dp, hf, _⟩ := h
    rw [List.length_cons, dpAll_len dp, len ds R hf]
  · obtain ⟨G, r, vs', ds, R, rfl, sG, row, dp, hf, q⟩ := h
    refine ⟨_, hb cdv A outer s H E hr ds R hf, G, r, rfl, sG, row, ?_, fun v d G' H' n ro pd dpv => q v d G' H' n ro pd dpv⟩
    have := dpAll_env (N := N.tail) dp
    have e1 : L2.start N (.ref r :: vs') = some (.ref r) :: L2.start N.tail vs' := by
      unfold L2.start
      rw [List.map_cons, List.cons_append, List.length_cons, List.length_tail, Nat.sub_sub, Nat.add_comm 1]
    have e2 : (none :: (ds.map some ++ List.replicate (N.length - (ds.length + 1)) none) : DEnv) = none :: startD N.tail ds := by
      unfold startD
      rw [List.length_tail, Nat.sub_sub, Nat.add_comm 1]
    rw [e1, e2]
    exact evN this
def fPick : List PyData → (PyData → Prop) → Prop := fun ds R => ∃ xs : List PyData, ds = [.list xs] ∧ (0 < xs.length ∧ xs.length ≤ 1000) ∧ ∀ d ∈ xs, R d
theorem ok_law_pick (B : Bl mg) (C_law_taken : Cal P w K mg base 1 "_law_taken" p_law_taken (spR K fTaken)) (F : Fun K "_law_pick" "_law_pick" s_law_pick f fd) : FnOk P w K mg base CX0 2 f fd p_law_pick (spR K fPick) := by
  refine fun_r F sc_law_pick (fun ds R h => ?_) fun cdv A outer s H E hr ds R h => ?_
  · obtain ⟨xs, rfl, _⟩ := h; rfl
  · obtain ⟨xs, rfl, ⟨h1, h2⟩, hR⟩ := h
    refine drb_ret (dr_ixL (P := fun d => d = .list xs) (Q := fun d => ∃ v : Int, (0 ≤ v ∧ v < xs.length) ∧ d = .int v) (dr_of (de_var 1 rfl)) (dr_call (Ps := fun ds => ds = [.int xs.length]) C_law_taken hr (by decide) (pv 0) (dra_of (das_cons (de_lenE B.b_len (de_var 1 rfl)) das_nil)) (fun ds e => ⟨xs.length, e, ⟨by omega, by omega⟩, fun v a b => ⟨v, ⟨a, b⟩, rfl⟩⟩)) ?_)
    rintro _ _ rfl ⟨v, ⟨a, b⟩, rfl⟩
    obtain ⟨k, rfl⟩ : ∃ k : Nat, v = k := ⟨v.toNat, by omega⟩
    have hk : k < xs.length := by omega
    exact ⟨xs, k, xs[k], rfl, rfl, atI_nat (List.getElem?_eq_getElem hk), hR _ (List.getElem_mem hk)⟩
end
end TW
/-! TWN: _law_mixed, _law_tree, _law_web. -/
namespace TW
open PySem PySem.Spec PyProof.Rows L2
section
variable {P : Program} {w : World} {K : PySem.W.Frag} {mg : Str → Option Value} {base : Heap} {f : Addr} {fd : FuncData}
theorem dpAll_erase {H : Hp} : ∀ {vs : List V} {ds : List PyData} (k : Nat), DpAll K H vs ds → DpAll K H (vs.eraseIdx k) (ds.eraseIdx k)
  | _, _, _, .nil => .nil
  | _, _, 0, .cons _ t => t
  | _, _, k + 1, .cons h t => .cons h (dpAll_erase k t)
theorem erase_perm {α : Type} : ∀ (l : List α) (k : Nat) (h : k < l.length), (l[k] :: l.eraseIdx k).Perm l
  | a :: l, 0, _ => List.Perm.refl _
  | a :: l, k + 1, h => by
    have h' : k < l.length := by simpa using h
    exact (List.Perm.swap a l[k] (l.eraseIdx k)).trans ((erase_perm l k h').cons a)
theorem pv0R {X : Cx} {vs : List V} {ds : List PyData} {G H : Hp} (h : DpAll X.K G vs ds) : vs.length = ds.length := dpAll_len h
def fMixed : List PyData → (PyData → Prop) → Prop := fun ds R => ∃ xs : List PyData, ds = [.list xs] ∧ xs.length ≤ 100 ∧ ∀ es : List PyData, es.Perm xs → R (.list es)
theorem ok_law_mixed (B : Bl mg) (C_law_taken : Cal P w K mg base 1 "_law_taken" p_law_taken (spR K fTaken)) (F : Fun K "_law_mixed" "_law_mixed" s_law_mixed f fd) : FnOk P w K mg base CX0 2 f fd p_law_mixed (spR K fMixed) := by
  refine F.ok sc_law_mixed (fun vs H Q E h => ?_) (fun cdv A outer s H vs Q E hr h => ?_)
  · obtain ⟨G, r, vs', ds, R, rfl, _, _, dp, ⟨xs, rfl, _⟩, _⟩ := h
    show (vs'.length + 1) = 2
    rw [dpAll_len dp]; rfl
  · obtain ⟨G, r, vs', ds, R, rfl, sG, row, dp, ⟨xs, rfl, hxs, hR⟩, q⟩ := h
    obtain ⟨sv, rfl, dsv⟩ := dp1 dp
    have hnd := sc_law_mixed.nd
    refine ⟨_, pss_cons (ps_par (i := 2) (j := 3) rfl hnd rfl rfl (by decide) rfl rfl (pa_cons (pe_callTy call_list_of rfl B.b_list boot_list (pa_cons (pv 1) pa_nil)) (pa_cons (pe_lst pa_nil) pa_nil)) (by rfl))
      (pss_cons (ps_for PassesOwn.never rfl (pi_range1 rfl B.b_range (pa_cons (pe_callB call_len rfl B.b_len boot_len (pa_cons (pv 2) pa_nil)) pa_nil)) (pg_name (i := 4) hnd rfl (.inl rfl))
        (pss_one (ps_expr (pe_bm PySem.F.plainAttrs_list PySem.F.slot_list_append PySem.F.type_list_append mt_append (pv 3) (pa_cons (pe_bm PySem.F.plainAttrs_list PySem.F.slot_list_pop PySem.F.type_list_pop mt_popAt (pv 2) (pa_cons (pe_callRaw C_law_taken hr (by decide) (pa_cons (pv 0) (pa_cons (pe_callB call_len rfl B.b_len boot_len (pa_cons (pv 2) pa_nil)) pa_nil))) pa_nil)) pa_nil)))))
      (pss_one (ps_ret (pv 3)))), ?_⟩
    obtain ⟨sa, svs, rfl, hs1, hs2⟩ := dp_lst_inv dsv
    have hsl := dpAll_len hs2
    refine q_seq ?_
    refine ⟨.ref sa, rfl, sa, svs, rfl, .inl (sG.seq hs1), fun la hla => ⟨(show 0 ≤ sizeLine by decide), fun fa hfa => ⟨_, _, rfl, ?_⟩⟩⟩
    dsimp only
    have n1 := Nxt.new0 (o := .lst svs) sG hla
    have n2 := n1.trans (Nxt.new0 (o := .lst []) n1.s hfa)
    have ro2 := row.nxt n2
    have hlf : la ≠ fa := ne_of_none upd_same hfa
    have hla0 : G la = none := sG.free hla
    have hfa0 : H fa = none := n1.h.free hfa
    have gfa : G fa = none := n1.s.free hfa
    have hlr : la ≠ r := fun e => by
      obtain ⟨_, _, _, _, _, h1, _⟩ := row
      rw [e, h1] at hla; cases hla
    have hfr : fa ≠ r := fun e => by
      obtain ⟨_, _, _, _, _, h1, _⟩ := row
      rw [e, h1] at hfa0; cases hfa0
    have hla2 : (upd (upd H la (.lst svs)) fa (.lst [])) la = some (.lst svs) := by rw [upd_ne hlf]; exact upd_same
    refine q_seq ?_
    refine ⟨.ref la, rfl, .ref la, svs.length, rfl, .inl ⟨_, .inl (.inl hla2), rfl⟩, (svs.length : Nat), rfl, by omega, by omega, ?_⟩
    refine t_forJ (K := K) (ds := rngP 0 ((svs.length : Nat) : Int).toNat) isIt_range n2.s (fun j σ3 G3 H3 => ∃ (lvs fvs : List V) (lds fds : List PyData) (y4 : Option V), σ3 = [some (.ref r), some (.ref sa), some (.ref la), some (.ref fa), y4] ∧ NxtR r G H G3 H3 ∧ Row K G3 H3 r ∧ G3 la = none ∧ G3 fa = none ∧ H3 la = some (.lst lvs) ∧ H3 fa = some (.lst fvs) ∧ DpAll K G3 lvs lds ∧ DpAll K G3 fvs fds ∧ (fds ++ lds).Perm xs ∧ lds.length + j = xs.length) ?_ ?_ ?_ ?_
    · exact ⟨svs, [], xs, [], none, rfl, n2.toR, ro2, hla0, gfa, hla2, upd_same, hs2, .nil, List.Perm.refl _, rfl⟩
    · rintro j σ3 G3 H3 G4 H4 ⟨lvs, fvs, lds, fds, y4, rfl, nx, ro, gl, gf, hl, hf, dl, df, pm, hlen⟩ n
      have a1 := n.stay hl gl trivial
      have a2 := n.stay hf gf trivial
      exact ⟨lvs, fvs, lds, fds, y4, rfl, nx.trans n.toR, ro.nxt n, a1.2, a2.2, a1.1, a2.1, dpAll_mono n.g dl, dpAll_mono n.g df, pm, hlen⟩
    · rintro j dd xv σ3 G3 H3 hdd ⟨lvs, fvs, lds, fds, y4, rfl, nx, ro, gl, gf, hl, hf, dl, df, pm, hlen⟩ g3 s3 dxv N2 hN2
      have hj : j < xs.length := by
        have := (List.getElem?_eq_some_iff.mp hdd).1
        simp [rngP] at this
        omega
      have hll := dpAll_len dl
      have hfl := dpAll_len df
      have hpl := pm.length_eq
      rw [List.length_append] at hpl
      refine ⟨.ref fa, rfl, .inl ⟨rfl, _, .inl (.inl hf)⟩, .ref la, rfl, .inl ⟨rfl, _, .inl (.inl hl)⟩, .ref r, rfl, .ref la, rfl, .ref la, lvs.length, rfl, .inl ⟨_, .inl (.inl hl), rfl⟩, ?_⟩
      refine ⟨G3, r, [.int (lvs.length : Nat)], [.int (lvs.length : Nat)], fun d => ∃ v : Nat, v < lvs.length ∧ d = .int v, rfl, s3, ro, .cons (.int _) .nil, ⟨(lvs.length : Nat), rfl, ⟨by omega, by omega⟩, fun v a b => ⟨v.toNat, by omega, by congr 1; omega⟩⟩, fun v d G4 H4 n4 ro4 pd dp4' => ?_⟩
      obtain ⟨k, hk, rfl⟩ := pd
      cases dp4'
      have a1 := n4.stay hlr hl gl trivial
      have a2 := n4.stay hfr hf gf trivial
      have hy : lvs[k]? = some lvs[k] := List.getElem?_eq_getElem hk
      have six : seqIndex? ((k : Nat) : Int) lvs.length = some k := by
        have e0 : ¬ ((k : Int) < 0) := by omega
        simp [seqIndex?, e0, hk]
      refine ⟨la, lvs, (k : Nat), k, lvs[k], rfl, rfl, a1.1, by omega, by omega, six, hy, ?_⟩
      have nx5 := (nx.trans n4).mut (o := .lst (lvs.eraseIdx k)) hla a1.2
      have ro5 : Row K G4 (upd H4 la (.lst (lvs.eraseIdx k))) r := ro4.upd (Ne.symm hlr)
      have hf5 : (upd H4 la (.lst (lvs.eraseIdx k))) fa = some (.lst fvs) := by rw [upd_ne (Ne.symm hlf)]; exact a2.1
      refine ⟨fa, fvs, lvs[k], rfl, rfl, hf5, by rw [sizeLine_eq]; omega, ?_⟩
      have nx6 := nx5.mut (o := .lst (fvs ++ [lvs[k]])) hfa0 a2.2
      have ro6 : Row K G4 (upd (upd H4 la (.lst (lvs.eraseIdx k))) fa (.lst (fvs ++ [lvs[k]]))) r := ro5.upd (Ne.symm hfr)
      obtain ⟨dk, hdk, ddk⟩ := dpAll_getV (dpAll_mono n4.g dl) hy
      have hkl : k < lds.length := by omega
      have edk : lds[k] = dk := by rw [List.getElem?_eq_getElem hkl] at hdk; exact Option.some.inj hdk
      refine hN2 _ G4 _ n4.g nx6.s ⟨lvs.eraseIdx k, fvs ++ [lvs[k]], lds.eraseIdx k, fds ++ [dk], _, rfl, nx6, ro6, a1.2, a2.2, by rw [upd_ne hlf, upd_same], upd_same, dpAll_erase k (dpAll_mono n4.g dl), dpAll_app (dpAll_mono n4.g df) (dpAll_one ddk), ?_, ?_⟩
      · rw [List.append_assoc]
        refine List.Perm.trans (List.Perm.append_left fds ?_) pm
        show (dk :: lds.eraseIdx k).Perm lds
        rw [← edk]
        exact erase_perm lds k hkl
      · rw [List.length_eraseIdx_of_lt hkl]; omega
    · rintro σ3 G3 H3 ⟨lvs, fvs, lds, fds, y4, rfl, nx, ro, gl, gf, hl, hf, dl, df, pm, hlen⟩ g3 s3
      have hl0 : lds = [] := List.length_eq_zero_iff.mp (by simp [rngP] at hlen; omega)
      subst hl0
      rw [List.append_nil] at pm
      refine ⟨.ref fa, rfl, ?_⟩
      have nf := nx.take hf gf hfa0
      exact q _ _ _ _ nf (ro.take (Ne.symm hfr) gf) (hR fds pm) (.lst (.inl (.inl upd_same)) (dpAll_mono (same_upd gf) df))
end
section
variable {X : Cx} {ρ : DEnv} {a : Expr} {p p2 q pos : Pos}
/-- list(range(n)) -/
theorem de_listRgN {n : Nat} (hm : X.mg "list" = none) (hm2 : X.mg "range" = none) (ha : De X a ρ (.int n)) (hn : n ≤ 1000) (hg : Gl X "list" := by rfl) (hg2 : Gl X "range" := by rfl) (hc : X.calm = true := by rfl)
    (hs : starEach [a] X.env = (false, eval a X.env) :: starEach [] X.env := by rfl) (na : starEach [.Call (.Name "range" p2) [a] [] q] X.env = (false, eval (.Call (.Name "range" p2) [a] [] q) X.env) :: starEach [] X.env := by rfl) :
    De X (.Call (.Name "list" p) [.Call (.Name "range" p2) [a] [] q] [] pos) ρ (dNs (List.range n)) := by
  refine pe_wk (pe_listRg hc hg hm (prg_1 hg2 hm2 ha hs) na) ?_
  rintro σ H Q ⟨G, s, en, k⟩
  refine ⟨G, s, en, fun x dx G1 H1 n1 p1 d1 => ?_⟩
  subst p1
  cases d1
  refine ⟨n, rfl, RgOk.of_le (by omega) (by omega) (by omega) (by omega), fun d hd => ?_⟩
  have e : rgV 0 (n : Int) = (List.range n).map fun (k : Nat) => V.int k := by
    unfold rgV
    rw [show ((n : Int) - 0).toNat = n by omega]
    refine List.map_congr_left fun k _ => ?_
    rw [Int.zero_add]
  rw [e]
  have n2 := Nxt.new (o := .lst ((List.range n).map fun (k : Nat) => V.int k)) n1.s hd
  exact k _ _ _ _ (n1.trans n2) rfl (.lst (.inl (.inl upd_same)) (dNs_all _))
end
section
variable {P : Program} {w : World} {K : PySem.W.Frag} {mg : Str → Option Value} {base : Heap} {f : Addr} {fd : FuncData}
theorem perm_ints {es : List PyData} {l : List Nat} (h : es.Perm (l.map fun (k : Nat) => PyData.int k)) : ∃ m : List Nat, m.Perm l ∧ es = m.map fun (k : Nat) => PyData.int k := by
  obtain ⟨m, h1, h2⟩ := perm_lift (fun (k : Nat) => PyData.int k) h l rfl
  exact ⟨m, h1, h2.symm⟩
theorem nm_at {names : List Nat} {j : Nat} (h : j < names.length) : atI (names.map fun (k : Nat) => PyData.int k) (j : Nat) = some (.int (names.getD j 0 : Nat)) := by
  refine atI_nat ?_
  rw [List.getElem?_map, List.getD_eq_getElem?_getD, List.getElem?_eq_getElem h]
  rfl
theorem getN {names : List Nat} {j : Nat} (h : j < names.length) : names[j]? = some (names.getD j 0) := by rw [List.getD_eq_getElem?_getD, List.getElem?_eq_getElem h]; rfl
def fTree : List PyData → (PyData → Prop) → Prop := fun ds R => ∃ n : Nat, ds = [.int n] ∧ (1 ≤ n ∧ n ≤ 6) ∧ ∀ (names : List Nat) (ts : List (Nat × Nat)), names.Perm (List.range n) → Tre n names n ts → R (.list (ts.map encH))
theorem encH_mm (u v : Nat) : (PyData.tuple [.int (min (u : Int) v), .int (max (u : Int) v)]) = encH (mm u v) := by
  show _ = PyData.tuple [.int ((min u v : Nat) : Int), .int ((max u v : Nat) : Int)]
  congr 1
  congr 1
  · congr 1; omega
  · congr 1; congr 1; omega
theorem ok_law_tree (B : Bl mg) (C_law_taken : Cal P w K mg base 1 "_law_taken" p_law_taken (spR K fTaken)) (C_law_pick : Cal P w K mg base 2 "_law_pick" p_law_pick (spR K fPick)) (C_law_mixed : Cal P w K mg base 2 "_law_mixed" p_law_mixed (spR K fMixed)) (F : Fun K "_law_tree" "_law_tree" s_law_tree f fd) : FnOk P w K mg base CX0 3 f fd p_law_tree (spR K fTree) := by
  refine F.ok sc_law_tree (fun vs H Q E h => ?_) (fun cdv A outer s H vs Q E hr h => ?_)
  · obtain ⟨G, r, vs', ds, R, rfl, _, _, dp, ⟨n, rfl, _⟩, _⟩ := h
    show (vs'.length + 1) = 2
    rw [dpAll_len dp]; rfl
  · obtain ⟨G, r, vs', ds, R, rfl, sG, row, dp, ⟨n, rfl, ⟨hn1, hn6⟩, hR⟩, q⟩ := h
    obtain ⟨nv', rfl, dnv'⟩ := dp1 dp
    cases dnv'
    have hnd := sc_law_tree.nd
    refine ⟨_, pss_cons (ps_par (i := 2) (j := 3) rfl hnd rfl rfl (by decide) rfl rfl (pa_cons (dr_call (i := 0) (ρ := [none, some (.int n), none, none, none, none, none]) (R := fun d => ∃ names : List Nat, names.Perm (List.range n) ∧ d = dNs names) C_law_mixed hr (by decide) (pv 0) (dra_of (das_cons (de_listRgN B.b_list B.b_range (de_var 1 rfl) (by omega)) das_nil)) (fun ds e => ⟨_, e, by rw [List.length_map, List.length_range]; omega, fun es h => by obtain ⟨m, h1, rfl⟩ := perm_ints h; exact ⟨m, h1, rfl⟩⟩)) (pa_cons (pe_lst pa_nil) pa_nil)) (by rfl))
      (pss_ex (A := fun names : List Nat => names.Perm (List.range n)) fun names hpm =>
      pss_cons (ps_for PassesOwn.never rfl (di_range2 (ρ := [none, some (.int n), none, none, none, none, none]) (m := 1) (n := n) B.b_range de_int (de_var 1 rfl) (by omega)) (pg_name (i := 4) hnd rfl (.inl rfl))
        (pss_ex (A := fun a : Nat => 1 ≤ a ∧ a < n) fun a ha =>
          pss_cons (ps_par (i := 5) (j := 6) rfl hnd rfl rfl (by decide) rfl rfl (dra_cons (i := 0) (ρ := [none, some (.int n), some (dNs names), none, some (.int a), none, none]) (P := fun d => d = .int (names.getD a 0 : Nat)) (dr_of (de_ixL (de_var 2 rfl) (de_var 4 rfl) (nm_at (by have := hpm.length_eq; rw [List.length_range] at this; omega))))
              (dra_cons (P := fun d => ∃ j : Nat, j < a ∧ d = .int (names.getD j 0 : Nat)) (dr_ixL (P := fun d => d = dNs names) (Q := fun d => ∃ j : Nat, j < a ∧ d = .int j) (dr_of (de_var 2 rfl)) (dr_call C_law_pick hr (by decide) (pv 0) (dra_cons (dr_lst (dra_cons (P := fun d => d = .int 0) (dr_of de_int) (dra_cons (P := fun d => d = .int ((a : Int) - 1)) (dr_of (de_sub (de_var 4 rfl) de_int)) (dra_cons (P := fun d => ∃ j : Nat, j < a ∧ d = .int j) (dr_call C_law_taken hr (by decide) (pv 0) (dra_of (das_cons (de_var 4 rfl) das_nil)) (fun ds e => ⟨a, e, ⟨by omega, by omega⟩, fun v h1 h2 => ⟨v.toNat, by omega, by congr 1; omega⟩⟩)) dra_nil))) (by rintro _ ⟨d1, _, _, ⟨d2, _, _, ⟨d3, _, _, rfl, rfl⟩, rfl⟩, rfl⟩; show 3 ≤ sizeLine; decide)) dra_nil)
                (by
                  rintro _ ⟨_, _, ⟨_, ⟨d1, _, rfl, ⟨d2, _, rfl, ⟨d3, _, ⟨j, hj, rfl⟩, rfl, rfl⟩, rfl⟩, rfl⟩, rfl⟩, rfl, rfl⟩
                  refine ⟨_, rfl, ⟨by show 0 < 3; decide, by show 3 ≤ 1000; decide⟩, fun d hd => ?_⟩
                  rcases List.mem_cons.mp hd with rfl | hd
                  · exact ⟨0, by omega, rfl⟩
                  · rcases List.mem_cons.mp hd with rfl | hd
                    · exact ⟨a - 1, by omega, by congr 1; omega⟩
                    · have : d = .int j := by simpa using hd
                      exact ⟨j, hj, this⟩))
                (by
                  rintro _ _ rfl ⟨j, hj, rfl⟩
                  exact ⟨_, j, _, rfl, rfl, nm_at (by have := hpm.length_eq; rw [List.length_range] at this; omega), j, hj, rfl⟩)) dra_nil)) (by rfl))
          (pss_ex (A := fun uv : Nat × Nat => True) fun uv _ => pss_one (ps_expr (pe_bm PySem.F.plainAttrs_list PySem.F.slot_list_append PySem.F.type_list_append mt_append (pv 3) (pa_cons (de_tup (ρ := [none, none, none, none, none, some (.int uv.1), some (.int uv.2)]) (das_cons (de_min2 rfl B.b_min (de_var 5 rfl) (de_var 6 rfl)) (das_cons (de_max2 rfl B.b_max (de_var 5 rfl) (de_var 6 rfl)) das_nil)) (show 2 ≤ sizeLine by decide)) pa_nil))))))
      (pss_one (ps_ret (pv 3)))), ?_⟩
    have hmp := dpAll_ints (K := K) (H := G)
    refine q_seq ?_
    refine ⟨G, r, rfl, sG, row, evN (evS (.int _) (evN (evN (evN (evN (evN ev0)))))), fun nv dd G1 H1 n1 ro1 pd dnv => ?_⟩
    obtain ⟨names, hpm, rfl⟩ := pd
    refine ⟨(show 0 ≤ sizeLine by decide), fun fa hfa => ⟨_, _, rfl, ?_⟩⟩
    dsimp only
    have nN := Nxt.new0 (o := .lst []) n1.s hfa
    have n2 := n1.trans nN.toR
    have ro2 := ro1.nxt nN
    have hfr : fa ≠ r := ro1.ne (xs := none) hfa
    have hfa0 : H fa = none := by
      cases e : H fa with
      | none => rfl
      | some o => have := n1.h fa o hfr e; rw [hfa] at this; cases this
    have gfa : G1 fa = none := n1.s.free hfa
    have hnl : names.length = n := by rw [hpm.length_eq, List.length_range]
    have nn : names.Nodup := hpm.nodup_iff.mpr List.nodup_range
    have nlt : ∀ a ∈ names, a < n := fun a ha => List.mem_range.mp (hpm.mem_iff.mp ha)
    refine ⟨names, hpm, ?_⟩
    refine q_seq ?_
    refine t_for (K := K) n2.s (ρ := [none, some (.int n), none, none, none, none, none]) ?_ (fun ds j σ3 G3 H3 => ∃ (fvs : List V) (ts : List (Nat × Nat)) (y4 y5 y6 : Option V), σ3 = [some (.ref r), some (.int n), some nv, some (.ref fa), y4, y5, y6] ∧ NxtR r G H G3 H3 ∧ Row K G3 H3 r ∧ G3 fa = none ∧ H3 fa = some (.lst fvs) ∧ DpAll K G3 fvs (ts.map encH) ∧ Tre n names (j + 1) ts ∧ Dp K G3 nv (dNs names)) ?_ ?_ ?_ ?_
    · exact evN (evS (.int _) (evN (evN (evN (evN (evN ev0))))))
    · rintro ds G3 H3 _ n3
      have a1 := n3.stay (o := .lst []) upd_same gfa trivial
      exact ⟨[], [], none, none, none, rfl, n2.trans n3.toR, ro2.nxt n3, a1.2, a1.1, .nil, tre_one (by omega), dp_mono n3.g dnv⟩
    · rintro ds j σ3 G3 H3 G4 H4 _ ⟨fvs, ts, y4, y5, y6, rfl, nx, ro, gf, hf, df, T, dn⟩ n4
      have a1 := n4.stay hf gf trivial
      exact ⟨fvs, ts, y4, y5, y6, rfl, nx.trans n4.toR, ro.nxt n4, a1.2, a1.1, dpAll_mono n4.g df, T, dp_mono n4.g dn⟩
    · rintro ds j dd xv σ3 G3 H3 rfl hdd ⟨fvs, ts, y4, y5, y6, rfl, nx, ro, gf, hf, df, T, dn⟩ g3 s3 dxv N2 hN2
      have hj : j < n - 1 := by
        have := (List.getElem?_eq_some_iff.mp hdd).1
        simp [rngP] at this
        omega
      have ed : dd = .int ((j + 1 : Nat) : Int) := by
        unfold rngP at hdd
        rw [List.getElem?_map, List.getElem?_range (show j < ((n : Int) - 1).toNat by omega)] at hdd
        have := Option.some.inj hdd
        rw [← this]
        show PyData.int (1 + (j : Int)) = _
        congr 1
        omega
      subst ed
      cases dxv
      refine ⟨j + 1, ⟨by omega, by omega⟩, ?_⟩
      refine q_seq ?_
      refine ⟨G3, r, rfl, s3, ro, evN (evS (.int _) (evS dn (evN (evS (.int _) (evN (evN ev0)))))), fun us ds G4 H4 n4 ro4 pd dus => ?_⟩
      obtain ⟨_, _, rfl, ⟨_, _, ⟨k, hk, rfl⟩, rfl, rfl⟩, rfl⟩ := pd
      obtain ⟨u1, u2, rfl, du1, du2⟩ := dp2 dus
      cases du1; cases du2
      refine ⟨_, _, rfl, ?_⟩
      dsimp only
      have a1 := n4.stay hfr hf gf trivial
      refine ⟨(names.getD (j + 1) 0, names.getD k 0), trivial, ?_⟩
      refine ⟨.ref fa, rfl, .inl ⟨rfl, _, .inl (.inl a1.1)⟩, ?_⟩
      refine ⟨G4, n4.s, evN (evN (evN (evN (evN (evS (.int _) (evS (.int _) ev0)))))), fun tv td G5 H5 n5 e5 dt => ?_⟩
      subst e5
      have a2 := n5.stay a1.1 a1.2 trivial
      have tl := T.len
      have hfl := dpAll_len df
      rw [List.length_map] at hfl
      refine ⟨fa, fvs, tv, rfl, rfl, a2.1, by rw [sizeLine_eq]; omega, ?_⟩
      have nx5 := ((nx.trans n4).trans n5.toR).mut (o := .lst (fvs ++ [tv])) hfa0 a2.2
      refine hN2 _ G5 _ (n4.g.trans n5.g) nx5.s ⟨fvs ++ [tv], ts ++ [mm (names.getD (j + 1) 0) (names.getD k 0)], _, _, _, rfl, nx5, (ro4.nxt n5).upd (Ne.symm hfr), a2.2, upd_same, ?_, tre_more nn nlt (by omega) T (j := k) hk (getN (by omega)) (getN (by omega)), dp_mono (n4.g.trans n5.g) dn⟩
      rw [List.map_append]
      refine dpAll_app (dpAll_mono (n4.g.trans n5.g) df) (dpAll_one ?_)
      rw [← encH_mm]
      exact dt
    · rintro ds σ3 G3 H3 rfl ⟨fvs, ts, y4, y5, y6, rfl, nx, ro, gf, hf, df, T, dn⟩ g3 s3
      have hl : (rngP 1 ((n : Int) - 1).toNat).length + 1 = n := by simp [rngP]; omega
      rw [hl] at T
      refine ⟨.ref fa, rfl, ?_⟩
      have nf := nx.take hf gf hfa0
      exact q _ _ _ _ nf (ro.take (Ne.symm hfr) gf) (hR names ts hpm T) (.lst (.inl (.inl upd_same)) (dpAll_mono (same_upd gf) df))
end
end TW
/-! TWI: _law_web. -/
namespace TW
open PySem PySem.Spec PyProof.Rows L2
theorem sort_hedges (bs : List (Nat × Nat)) : (bs.mergeSort (PySem.W.dataLe false encH)).Pairwise (fun a b => ¬ (b.1 < a.1 ∨ (b.1 = a.1 ∧ b.2 < a.2))) := by
  have e : PySem.W.dataLe false encH = fun p q : Nat × Nat => decide ((p.1 : Int) < q.1 ∨ ((p.1 : Int) = q.1 ∧ (p.2 : Int) ≤ q.2)) := PySem.W.dataLe_ii (fun p : Nat × Nat => (p.1 : Int)) (fun p => (p.2 : Int))
  rw [e]
  refine (List.pairwise_mergeSort (fun a b c h1 h2 => ?_) (fun a b => ?_) bs).imp fun {a b} h => ?_
  · have h1 := of_decide_eq_true h1
    have h2 := of_decide_eq_true h2
    exact decide_eq_true (by omega)
  · simp only [Bool.or_eq_true, decide_eq_true_eq]
    omega
  · have h := of_decide_eq_true h
    omega
theorem encH_alike (bs : List (Nat × Nat)) : PySem.W.AllAlike (bs.map encH) := by
  have := dTs_alike (bs.map fun e => [(e.1 : Int), (e.2 : Int)])
  rwa [List.map_map] at this
theorem encH_sortable (bs : List (Nat × Nat)) : PySem.W.Sortable (bs.map encH) := by
  have := dTs_sortable (ks := bs.map fun e => [(e.1 : Int), (e.2 : Int)]) (fun k hk => by obtain ⟨e, _, rfl⟩ := List.mem_map.mp hk; simp)
  rwa [List.map_map] at this
theorem encH_depth (e : Nat × Nat) : (encH e).depth ≤ 1 := dTs_depth [(e.1 : Int), (e.2 : Int)]
theorem eqv_encH (a b : Nat × Nat) : PyData.eqv (encH a) (encH b) = decide (a = b) := by
  have := eqv_dTs [(a.1 : Int), (a.2 : Int)] [(b.1 : Int), (b.2 : Int)]
  show PyData.eqv (dTs [(a.1 : Int), (a.2 : Int)]) (dTs [(b.1 : Int), (b.2 : Int)]) = _
  rw [this]
  obtain ⟨a1, a2⟩ := a
  obtain ⟨b1, b2⟩ := b
  by_cases h : a1 = b1 ∧ a2 = b2
  · rw [decide_eq_true (by rw [h.1, h.2]), decide_eq_true (by rw [h.1, h.2])]
  · rw [decide_eq_false, decide_eq_false]
    · intro e; cases e; exact h ⟨rfl, rfl⟩
    · intro e; simp at e; exact h (by omega)
theorem any_encH (hs : List (Nat × Nat)) (a : Nat × Nat) : ((hs.map encH).any fun z => PyData.eqv z (encH a)) = decide (a ∈ hs) := by
  induction hs with
  | nil => simp
  | cons b hs ih =>
    rw [List.map_cons, List.any_cons, ih, eqv_encH]
    by_cases e : b = a
    · subst e; simp
    · have : ¬ a = b := fun q => e q.symm
      simp [e, this]
section
variable {X : Cx} {ρ : DEnv} {a : Expr} {pos p : Pos}
theorem de_sortH {hs : List (Nat × Nat)} {R : PyData → Prop} (hu : X.A.units + 4 < cLine) (hm : X.mg "sorted" = none) (ha : De X a ρ (.list (hs.map encH))) (hR : ∀ ms : List (Nat × Nat), ms.Perm hs → ms.Pairwise (fun a b => ¬ (b.1 < a.1 ∨ (b.1 = a.1 ∧ b.2 < a.2))) → R (.list (ms.map encH)))
    (hg : Gl X "sorted" := by rfl) (hs' : starEach [a] X.env = (false, eval a X.env) :: starEach [] X.env := by rfl) : DeR X (.Call (.Name "sorted" p) [a] [] pos) ρ R :=
  de_imp (de_sortedR (β := Nat × Nat) (enc := encH) (P := fun bs => bs = hs) hu hm (de_imp ha fun d e => ⟨hs, rfl, e⟩) (by rintro _ rfl; exact encH_alike _) (by rintro _ rfl; exact encH_sortable _) (by rintro _ rfl b _; exact encH_depth b) hg hs') fun d ⟨bs, e1, e2⟩ => by
    subst e1 e2
    exact hR _ (List.mergeSort_perm _ _) (sort_hedges _)
end
section
variable {P : Program} {w : World} {K : PySem.W.Frag} {mg : Str → Option Value} {base : Heap} {f : Addr} {fd : FuncData}
def fWeb : List PyData → (PyData → Prop) → Prop := fun ds R => ds = [.int 6] ∧ ∀ (n : Nat) (hs : List (Nat × Nat)), WebOk n hs → R (dWeb n hs)
theorem ok_law_web (B : Bl mg) (C_law_taken : Cal P w K mg base 1 "_law_taken" p_law_taken (spR K fTaken)) (C_law_pick : Cal P w K mg base 2 "_law_pick" p_law_pick (spR K fPick)) (C_law_tree : Cal P w K mg base 3 "_law_tree" p_law_tree (spR K fTree)) (C_law_far : Cal P w K mg base 2 "_law_far" p_law_far (spD K fFar)) (F : Fun K "_law_web" "_law_web" s_law_web f fd) : FnOk P w K mg base CX0 4 f fd p_law_web (spR K fWeb) := by
  refine F.ok sc_law_web (fun vs H Q E h => ?_) (fun cdv A outer s H vs Q E hr h => ?_)
  · obtain ⟨G, r, vs', ds, R, rfl, _, _, dp, ⟨rfl, _⟩, _⟩ := h
    show (vs'.length + 1) = 2
    rw [dpAll_len dp]; rfl
  · obtain ⟨G, r, vs', ds, R, rfl, sG, row, dp, ⟨rfl, hR⟩, q⟩ := h
    obtain ⟨nv', rfl, dnv'⟩ := dp1 dp
    cases dnv'
    have hnd := sc_law_web.nd
    have hu := hr.units
    have hu4 : (cxD P w K mg base N_law_web "_law_web" s_law_web f cdv A outer s H E).A.units + 4 < cLine := by
      show (A.deeper (envOfC "_law_web" (defScope s_law_web) s.heap.objs.size f cdv)).units + 4 < cLine
      omega
    have tk : ∀ {n : Nat} (h : 1 ≤ n ∧ n ≤ 6) (ds : List PyData), ds = [.int (n : Nat)] → fTaken ds (fun d => ∃ j : Nat, j < n ∧ d = .int j) := fun {n} h ds e => ⟨n, e, ⟨by omega, by omega⟩, fun v h1 h2 => ⟨v.toNat, by omega, by congr 1; omega⟩⟩
    refine ⟨_, pss_cons (ps_set (i := 2) hnd rfl (.inl rfl) (dr_op (i := 0) (ρ := [none, some (.int 6), none, none, none, none, none, none, none]) (P := fun d => ∃ v : Int, v = 1 ∧ d = .int v) (Q := fun d => ∃ v : Int, (0 ≤ v ∧ v < 6) ∧ d = .int v) (R := fun d => ∃ v : Int, (1 ≤ v ∧ v ≤ 6) ∧ d = .int v) op_add (rd_I0P (A := fun v => v = 1) (B := fun v => 0 ≤ v ∧ v < 6) (D := fun v => 1 ≤ v ∧ v ≤ 6) (fun x y h1 h2 => by omega)) (dr_of (de_imp de_int fun d e => ⟨1, rfl, e⟩)) (dr_call C_law_taken hr (by decide) (pv 0) (dra_of (das_cons (de_var 1 rfl) das_nil)) (fun ds e => ⟨6, e, ⟨by decide, by decide⟩, fun v h1 h2 => ⟨v, ⟨h1, h2⟩, rfl⟩⟩))))
      (pss_ex (A := fun n : Nat => 1 ≤ n ∧ n ≤ 6) fun n hn =>
      pss_cons (ps_set (i := 3) hnd rfl (.inl rfl) (dr_call (i := 0) (ρ := [none, none, some (.int n), none, none, none, none, none, none]) (R := fun d => ∃ (names : List Nat) (ts : List (Nat × Nat)), names.Perm (List.range n) ∧ Tre n names n ts ∧ d = .list (ts.map encH)) C_law_tree hr (by decide) (pv 0) (dra_of (das_cons (de_var 2 rfl) das_nil)) (fun ds e => ⟨n, e, hn, fun names ts h1 h2 => ⟨names, ts, h1, h2, rfl⟩⟩)))
      (pss_ex (A := fun z : List (Nat × Nat) × (Nat → Bool) => Pre n z.2 z.1) fun z hz =>
      pss_cons (ps_par (i := 4) (j := 5) rfl hnd rfl rfl (by decide) rfl rfl (pa_cons (de_callCR (ρ := [none, none, some (.int n), some (.list (z.1.map encH)), none, none, none, none, none]) (R := fun d => ∃ ks : List Int, (ks.length = n ∧ ∀ f, f < n → ks.getD f 0 % 2 = parI z.2 0 f) ∧ d = dL ks) (Ps := fun ds => ∃ ms : List (Nat × Nat), WebOk n ms ∧ Par ms z.2 ∧ ds = [dWeb n ms, .int (0 : Nat)]) C_law_far hr (by decide)
            (pa_wk (das_consR (de_imp (P := fun d => ∃ ms : List (Nat × Nat), (WebOk n ms ∧ Par ms z.2) ∧ d = dWeb n ms) (pe_wk (pe_tup (das_consR (P := fun d => d = .int n) (R := fun x => ∃ d ds, (∃ ms : List (Nat × Nat), (WebOk n ms ∧ Par ms z.2) ∧ d = dHs ms) ∧ ds = [] ∧ x = d :: ds) (de_var 2 rfl) (das_consR (de_imp (de_tupleL (P := fun ds => ∃ ms : List (Nat × Nat), (WebOk n ms ∧ Par ms z.2) ∧ ds = ms.map encH) B.b_tuple (de_sortH hu4 B.b_sorted (de_var 3 rfl) (fun ms h1 h2 => ⟨_, ⟨ms, ⟨hz.web h1 h2, fun h hm => hz.par h (h1.mem_iff.mp hm)⟩, rfl⟩, rfl⟩))) fun d ⟨ds, ⟨ms, h, e1⟩, e2⟩ => ⟨ms, h, by rw [e2, e1]⟩) das_nil)))
              (by
                rintro σ H Q ⟨G, s, en, k⟩
                refine ⟨G, s, en, fun vs ds G1 H1 n1 p1 d1 => ?_⟩
                obtain ⟨_, _, rfl, ⟨_, _, ⟨ms, hms, rfl⟩, rfl, rfl⟩, rfl⟩ := p1
                refine ⟨by rw [dpAll_len d1]; show 2 ≤ sizeLine; decide, fun l hl => ?_⟩
                have n2 := Nxt.new (o := .tup vs) n1.s hl
                exact k _ _ _ _ (n1.trans n2) ⟨ms, hms, rfl⟩ (.tup upd_same (dpAll_mono n2.g d1)))) fun d h => h) (das_cons de_int das_nil))
              (by
                rintro σ H Q ⟨G, s, en, k⟩
                exact ⟨G, s, en, fun vs ds G' H' nx ⟨d, ds', ⟨ms, hms, e1⟩, e2, e3⟩ dp => k vs ds G' H' nx ⟨ms, hms.1, hms.2, by rw [e3, e1, e2]; rfl⟩ dp⟩))
            (by
              rintro ds ⟨ms, h1, h2, rfl⟩
              exact ⟨n, ms, 0, rfl, h1, by omega, fun ks hk => ⟨ks, ⟨hk.len, hk.par h1 h2 (by omega)⟩, rfl⟩⟩))
          (pa_cons (pe_callTy call_list_of rfl B.b_list boot_list (pa_cons (pv 3) pa_nil)) pa_nil)) (by rfl))
      (pss_ex (A := fun ks : List Int => ks.length = n ∧ ∀ f, f < n → ks.getD f 0 % 2 = parI z.2 0 f) fun ks hks =>
      pss_cons (ps_for PassesOwn.never rfl (dri_range1 (ρ := [none, none, some (.int n), none, some (dL ks), none, none, none, none]) (i := 0) (A := fun _ => True) B.b_range (dr_call C_law_pick hr (by decide) (pv 0) (dra_of (das_cons (de_lst (ds := [.int 0, .int 0, .int 1, .int 2, .int n]) (das_cons de_int (das_cons de_int (das_cons de_int (das_cons de_int (das_cons (de_var 2 rfl) das_nil))))) (show 5 ≤ sizeLine by decide)) das_nil))
            (fun ds e => ⟨[.int 0, .int 0, .int 1, .int 2, .int n], e, ⟨by show 0 < 5; decide, by show 5 ≤ 1000; decide⟩, fun d hd => by
              have e5 : d = .int 0 ∨ d = .int 0 ∨ d = .int 1 ∨ d = .int 2 ∨ d = .int n := by simpa using hd
              rcases e5 with rfl | rfl | rfl | rfl | rfl
              · exact ⟨0, ⟨by omega, by omega, trivial⟩, rfl⟩
              · exact ⟨0, ⟨by omega, by omega, trivial⟩, rfl⟩
              · exact ⟨1, ⟨by omega, by omega, trivial⟩, rfl⟩
              · exact ⟨2, ⟨by omega, by omega, trivial⟩, rfl⟩
              · exact ⟨n, ⟨by omega, by omega, trivial⟩, rfl⟩⟩))) (pg_name (i := 6) hnd rfl (.inl rfl))
        (pss_cons (ps_par (i := 7) (j := 8) rfl hnd rfl rfl (by decide) rfl rfl (dra_cons (i := 0) (ρ := [none, none, some (.int n), none, some (dL ks), none, none, none, none]) (dr_call C_law_taken hr (by decide) (pv 0) (dra_of (das_cons (de_var 2 rfl) das_nil)) (tk hn)) (dra_cons (dr_call C_law_taken hr (by decide) (pv 0) (dra_of (das_cons (de_var 2 rfl) das_nil)) (tk hn)) dra_nil)) (by rfl))
        (pss_ex (A := fun uv : Nat × Nat => uv.1 < n ∧ uv.2 < n) fun uv huv =>
          pss_one (ps_if (PW.pt (pw_and (dt_eqI (ρ := [none, none, none, none, some (dL ks), none, none, some (.int uv.1), some (.int uv.2)]) (i := (ks.getD uv.1 0 - ks.getD uv.2 0) % 2) (j := 1) (de_mod (de_sub (de_ixL (de_var 4 rfl) (de_var 7 rfl) (getI (by omega))) (de_ixL (de_var 4 rfl) (de_var 8 rfl) (getI (by omega)))) de_int (by decide)) de_int)
              (pw_and1 (pt_cmpR (op_notInD (hu65 hr)) (de_tup (ρ := [none, none, none, none, none, none, none, some (.int uv.1), some (.int uv.2)]) (das_cons (de_min2 rfl B.b_min (de_var 7 rfl) (de_var 8 rfl)) (das_cons (de_max2 rfl B.b_max (de_var 7 rfl) (de_var 8 rfl)) das_nil)) (show 2 ≤ sizeLine by decide)) (pv 5) (by rfl)))))
            (pss_one (ps_expr (pe_bm PySem.F.plainAttrs_list PySem.F.slot_list_append PySem.F.type_list_append mt_append (pv 5) (pa_cons (de_tup (ρ := [none, none, none, none, none, none, none, some (.int uv.1), some (.int uv.2)]) (das_cons (de_min2 rfl B.b_min (de_var 7 rfl) (de_var 8 rfl)) (das_cons (de_max2 rfl B.b_max (de_var 7 rfl) (de_var 8 rfl)) das_nil)) (show 2 ≤ sizeLine by decide)) pa_nil)))) pss_nil))))
      (pss_ex (A := fun hs : List (Nat × Nat) => Pre n z.2 hs) fun hs hhs => pss_one (ps_ret (show DeR _ _ [none, none, some (.int n), none, none, some (.list (hs.map encH)), none, none, none] (fun d => ∃ ms : List (Nat × Nat), WebOk n ms ∧ d = dWeb n ms) from
        pe_wk (pe_tup (das_consR (P := fun d => d = .int n) (R := fun x => ∃ d ds, (∃ ms : List (Nat × Nat), WebOk n ms ∧ d = dHs ms) ∧ ds = [] ∧ x = d :: ds) (de_var 2 rfl) (das_consR (de_imp (de_tupleL (P := fun ds => ∃ ms : List (Nat × Nat), WebOk n ms ∧ ds = ms.map encH) B.b_tuple (de_sortH hu4 B.b_sorted (de_var 5 rfl) (fun ms h1 h2 => ⟨_, ⟨ms, hhs.web h1 h2, rfl⟩, rfl⟩))) fun d ⟨ds, ⟨ms, h, e1⟩, e2⟩ => ⟨ms, h, by rw [e2, e1]⟩) das_nil)))
          (by
            rintro σ H Q ⟨G, s, en, k⟩
            refine ⟨G, s, en, fun vs ds G1 H1 n1 p1 d1 => ?_⟩
            obtain ⟨_, _, rfl, ⟨_, _, ⟨ms, hms, rfl⟩, rfl, rfl⟩, rfl⟩ := p1
            refine ⟨by rw [dpAll_len d1]; show 2 ≤ sizeLine; decide, fun l hl => ?_⟩
            have n2 := Nxt.new (o := .tup vs) n1.s hl
            exact k _ _ _ _ (n1.trans n2) ⟨ms, hms, rfl⟩ (.tup upd_same (dpAll_mono n2.g d1))))))))), ?_⟩
    refine q_seq (q_set ?_)
    refine ⟨G, r, rfl, sG, row, evN (evS (.int _) (evN (evN (evN (evN (evN (evN (evN ev0)))))))), fun v d G1 H1 n1 ro1 pd dp1' => ?_⟩
    obtain ⟨v1, hv1, rfl⟩ := pd
    cases dp1'
    obtain ⟨n, rfl⟩ : ∃ n : Nat, v1 = n := ⟨v1.toNat, by omega⟩
    have hn : 1 ≤ n ∧ n ≤ 6 := by omega
    refine ⟨n, hn, ?_⟩
    dsimp only
    refine q_seq (q_set ?_)
    refine ⟨G1, r, rfl, n1.s, ro1, evN (evN (evS (.int _) (evN (evN (evN (evN (evN (evN ev0)))))))), fun tv d G2 H2 n2 ro2 pd dtv => ?_⟩
    obtain ⟨names, ts, hpm, hT, rfl⟩ := pd
    obtain ⟨par, hpre⟩ := tre_pre hn.1 hn.2 hpm hT
    refine ⟨(ts, par), hpre, ?_⟩
    dsimp only
    refine q_seq ?_
    refine ⟨G2, n2.s, evN (evN (evS (.int _) (evS dtv (evN (evN (evN (evN (evN ev0)))))))), fun kv d G3 H3 n3 pd dkv => ?_⟩
    obtain ⟨ks, hks, rfl⟩ := pd
    obtain ⟨ta, tvs, rfl, ht1, ht2⟩ := dp_lst_inv dtv
    refine ⟨.ref ta, rfl, ta, tvs, rfl, .inl (n3.s.seq ((n3.g).seq ht1)), fun fa hfa => ⟨_, _, rfl, ?_⟩⟩
    dsimp only
    have ro3 := ro2.nxt n3
    have nN := Nxt.new0 (o := .lst tvs) n3.s hfa
    have nx0 := ((n1.trans n2).trans n3.toR).trans nN.toR
    have ro4 := ro3.nxt nN
    have hfr : fa ≠ r := ro3.ne (xs := none) hfa
    have hfa0 : H fa = none := by
      cases e : H fa with
      | none => rfl
      | some o => have := ((n1.trans n2).trans n3.toR).h fa o hfr e; rw [hfa] at this; cases this
    have gfa : G3 fa = none := n3.s.free hfa
    refine ⟨ks, hks, ?_⟩
    refine q_seq ?_
    refine t_forR rfl nN.s ro4 (evN (evN (evS (.int _) (evN (evS dkv (evN (evN (evN (evN ev0))))))))) (fun ds j σ5 G5 H5 => ∃ (fvs : List V) (hs : List (Nat × Nat)) (y6 y7 y8 : Option V), σ5 = [some (.ref r), some (.int 6), some (.int n), some (.ref ta), some kv, some (.ref fa), y6, y7, y8] ∧ NxtR r G H G5 H5 ∧ Row K G5 H5 r ∧ G5 fa = none ∧ H5 fa = some (.lst fvs) ∧ DpAll K G5 fvs (hs.map encH) ∧ Pre n par hs ∧ Dp K G5 kv (dL ks)) ?_ ?_ ?_ ?_
    · rintro ds G5 H5 _ n5 ro5
      have a1 := n5.stay (o := .lst tvs) hfr upd_same gfa trivial
      exact ⟨tvs, ts, none, none, none, rfl, nx0.trans n5, ro5, a1.2, a1.1, dpAll_mono (n3.g.trans n5.g) ht2, hpre, dp_mono n5.g dkv⟩
    · rintro ds j σ5 G5 H5 G6 H6 _ ⟨fvs, hs, y6, y7, y8, rfl, nx, ro, gf, hf, df, Pr, dk⟩ n6
      have a1 := n6.stay hf gf trivial
      exact ⟨fvs, hs, y6, y7, y8, rfl, nx.trans n6.toR, ro.nxt n6, a1.2, a1.1, dpAll_mono n6.g df, Pr, dp_mono n6.g dk⟩
    · rintro ds j dd xv σ5 G5 H5 _ hdd ⟨fvs, hs, y6, y7, y8, rfl, nx, ro, gf, hf, df, Pr, dk⟩ g5 s5 dxv N2 hN2
      unfold gName
      refine q_seq ?_
      refine ⟨G5, r, rfl, s5, ro, evN (evN (evS (.int _) (evN (evS dk (evN (evN (evN (evN ev0)))))))), fun us ds G6 H6 n6 ro6 pd dus => ?_⟩
      obtain ⟨_, _, ⟨u1, hu1, rfl⟩, ⟨_, _, ⟨u2, hu2, rfl⟩, rfl, rfl⟩, rfl⟩ := pd
      obtain ⟨w1, w2, rfl, dw1, dw2⟩ := dp2 dus
      cases dw1; cases dw2
      refine ⟨_, _, rfl, ?_⟩
      dsimp only
      have a1 := n6.stay hfr hf gf trivial
      have dk6 := dp_mono n6.g dk
      refine ⟨(u1, u2), ⟨hu1, hu2⟩, ?_⟩
      refine ⟨G6, n6.s, evN (evN (evN (evN (evS dk6 (evN (evN (evS (.int _) (evS (.int _) ev0)))))))), fun G7 H7 n7 => ?_⟩
      have a2 := n7.stay a1.1 a1.2 trivial
      have nx7 := (nx.trans n6).trans n7.toR
      have ro7 := ro6.nxt n7
      have df7 := dpAll_mono (n6.g.trans n7.g) df
      have dk7 := dp_mono n7.g dk6
      by_cases hodd : (ks.getD u1 0 - ks.getD u2 0) % 2 = 1
      · rw [decide_eq_true hodd]
        refine iteT ?_
        refine ⟨G7, n7.s, evN (evN (evN (evN (evN (evN (evN (evS (.int _) (evS (.int _) ev0)))))))), fun tv td G8 H8 n8 e8 dt8 => ?_⟩
        subst e8
        rw [encH_mm] at dt8
        have a3 := n8.stay a2.1 a2.2 trivial
        have nx8 := nx7.trans n8.toR
        have ro8 := ro7.nxt n8
        have df8 := dpAll_mono n8.g df7
        have dk8 := dp_mono n8.g dk7
        refine ⟨.ref fa, rfl, encH (mm u1 u2), hs.map encH, dp_w (dp_mono n8.s dt8), .lst (.inl (.inl a3.1)) (dpAll_w (dpAll_mono n8.s df8)), (sh_encH _).shaped, (sh_encHs hs).shaped, _, rfl, ?_⟩
        rw [any_encH]
        by_cases hin : mm u1 u2 ∈ hs
        · rw [decide_eq_true hin]
          refine iteF ?_
          exact hN2 _ G8 H8 ((n6.g.trans n7.g).trans n8.g) n8.s ⟨fvs, hs, _, _, _, rfl, nx8, ro8, a3.2, a3.1, df8, Pr, dk8⟩
        · rw [decide_eq_false hin]
          refine iteT ?_
          refine ⟨.ref fa, rfl, .inl ⟨rfl, _, .inl (.inl a3.1)⟩, ?_⟩
          refine ⟨G8, n8.s, evN (evN (evN (evN (evN (evN (evN (evS (.int _) (evS (.int _) ev0)))))))), fun tv td G9 H9 n9 e9 dt9 => ?_⟩
          subst e9
          rw [encH_mm] at dt9
          have a4 := n9.stay a3.1 a3.2 trivial
          have hfl := dpAll_len df
          rw [List.length_map] at hfl
          have hpl := Pr.len
          refine ⟨fa, fvs, tv, rfl, rfl, a4.1, by rw [sizeLine_eq]; omega, ?_⟩
          have nx9 := (nx8.trans n9.toR).mut (o := .lst (fvs ++ [tv])) hfa0 a4.2
          have hpar : par u1 ≠ par u2 := fun e => by
            have e1 := hks.2 u1 hu1
            have e2 := hks.2 u2 hu2
            unfold parI at e1 e2
            rw [e] at e1
            omega
          refine hN2 _ G9 _ (((n6.g.trans n7.g).trans n8.g).trans n9.g) nx9.s ⟨fvs ++ [tv], hs ++ [mm u1 u2], _, _, _, rfl, nx9, (ro8.nxt n9).upd (Ne.symm hfr), a4.2, upd_same, ?_, Pr.add hu1 hu2 hpar hin, dp_mono n9.g dk8⟩
          rw [List.map_append]
          exact dpAll_app (dpAll_mono n9.g df8) (dpAll_one dt9)
      · rw [decide_eq_false hodd]
        refine iteF ?_
        refine iteF ?_
        exact hN2 _ G7 H7 (n6.g.trans n7.g) n7.s ⟨fvs, hs, _, _, _, rfl, nx7, ro7, a2.2, a2.1, df7, Pr, dk7⟩
    · rintro ds σ5 G5 H5 _ ⟨fvs, hs, y6, y7, y8, rfl, nx, ro, gf, hf, df, Pr, dk⟩ g5 s5
      refine ⟨hs, Pr, ?_⟩
      have nf := nx.take hf gf hfa0
      refine ⟨_, nf.s, evN (evN (evS (.int _) (evN (evN (evS (.lst (.inl (.inl upd_same)) (dpAll_mono (same_upd gf) df)) (evN (evN (evN ev0)))))))), fun v d G6 H6 n6 pd dv => ?_⟩
      obtain ⟨ms, hms, rfl⟩ := pd
      exact q v _ G6 H6 (nf.trans n6.toR) ((ro.take (Ne.symm hfr) gf).nxt n6) (hR n ms hms) dv
end
end TW
/-! TWJ: _law_laying. -/
namespace TW
open PySem PySem.Spec PyProof.Rows L2
section
variable {X : Cx} {ρ : DEnv} {i : Nat} {st : Stmt} {P R : PyData → Prop} {rest : List Stmt} {g : TG}
theorem psr_of (h : PS X st (tAsg (tD X.K ρ P) g)) : PS X st (tAsg (tR X.K ρ i P) g) := ps_wk h fun D σ H ⟨G, r, hi, s, row, en, q⟩ => ⟨G, s, en, fun v d G' H' n pd dp => q v d G' H' n.toR (row.nxt n) pd dp⟩
/-- three targets -/
theorem drb_tup3 {a b c : Nat} {A : PyData → PyData → PyData → Prop} (na : a ≠ i) (nb : b ≠ i) (nc : c ≠ i) (h : PS X st (tAsg (tR X.K ρ i P) (gTup X.K 3 (gCons (gName a) (gCons (gName b) (gCons (gName c) gNil)))))) (hP : ∀ d, P d → ∃ d1 d2 d3, A d1 d2 d3 ∧ d = .tuple [d1, d2, d3])
    (hr : ∀ d1 d2 d3, A d1 d2 d3 → Dr X rest (((ρ.set a (some d1)).set b (some d2)).set c (some d3)) i R) : Dr X (st :: rest) ρ i R := by
  refine pss_wk (pss_cons h (pss_ex (A := fun z : PyData × PyData × PyData => A z.1 z.2.1 z.2.2) fun z hz => hr z.1 z.2.1 z.2.2 hz)) ?_
  rintro D σ H ⟨G, r, hi, s, row, en, q⟩
  refine ⟨G, r, hi, s, row, en, fun v d G1 H1 n1 ro1 pd dp => ?_⟩
  obtain ⟨d1, d2, d3, hA, rfl⟩ := hP d pd
  obtain ⟨t, xs, rfl, h1, h2⟩ := dp_tup_inv dp
  obtain ⟨u, v, w, rfl, du, dv, dw⟩ := dp3 h2
  refine ⟨t, [u, v, w], rfl, same_t n1.s h1, rfl, u, _, rfl, v, _, rfl, w, [], rfl, rfl, (d1, d2, d3), hA, G1, r, ?_, n1.s, ro1, (((en.mono n1.g).set du).set dv).set dw, fun v' d' G' H' n ro pd' dp' => q v' d' G' H' (n1.trans n) ro pd' dp'⟩
  rw [List.getElem?_set_ne nc, List.getElem?_set_ne nb, List.getElem?_set_ne na]; exact hi
theorem drb_tup2 {a b : Nat} {A : PyData → PyData → Prop} (na : a ≠ i) (nb : b ≠ i) (h : PS X st (tAsg (tR X.K ρ i P) (gTup X.K 2 (gCons (gName a) (gCons (gName b) gNil))))) (hP : ∀ d, P d → ∃ d1 d2, A d1 d2 ∧ d = .tuple [d1, d2])
    (hr : ∀ d1 d2, A d1 d2 → Dr X rest ((ρ.set a (some d1)).set b (some d2)) i R) : Dr X (st :: rest) ρ i R := by
  refine pss_wk (pss_cons h (pss_ex (A := fun z : PyData × PyData => A z.1 z.2) fun z hz => hr z.1 z.2 hz)) ?_
  rintro D σ H ⟨G, r, hi, s, row, en, q⟩
  refine ⟨G, r, hi, s, row, en, fun v d G1 H1 n1 ro1 pd dp => ?_⟩
  obtain ⟨d1, d2, hA, rfl⟩ := hP d pd
  obtain ⟨t, xs, rfl, h1, h2⟩ := dp_tup_inv dp
  obtain ⟨u, v, rfl, du, dv⟩ := dp2 h2
  refine ⟨t, [u, v], rfl, same_t n1.s h1, rfl, u, _, rfl, v, [], rfl, rfl, (d1, d2), hA, G1, r, ?_, n1.s, ro1, ((en.mono n1.g).set du).set dv, fun v' d' G' H' n ro pd' dp' => q v' d' G' H' (n1.trans n) ro pd' dp'⟩
  rw [List.getElem?_set_ne nb, List.getElem?_set_ne na]; exact hi
/-- two plain locals by a pair -/
theorem drb_par {a b : Nat} {Ps : List PyData → Prop} {A : PyData → PyData → Prop} (na : a ≠ i) (nb : b ≠ i) (h : PS X st (tPar a b (tRs X.K ρ i Ps))) (hP : ∀ ds, Ps ds → ∃ d1 d2, A d1 d2 ∧ ds = [d1, d2])
    (hr : ∀ d1 d2, A d1 d2 → Dr X rest ((ρ.set a (some d1)).set b (some d2)) i R) : Dr X (st :: rest) ρ i R := by
  refine pss_wk (pss_cons h (pss_ex (A := fun z : PyData × PyData => A z.1 z.2) fun z hz => hr z.1 z.2 hz)) ?_
  rintro D σ H ⟨G, r, hi, s, row, en, q⟩
  refine ⟨G, r, hi, s, row, en, fun vs ds G1 H1 n1 ro1 pd dp => ?_⟩
  obtain ⟨d1, d2, hA, rfl⟩ := hP ds pd
  obtain ⟨u, v, rfl, du, dv⟩ := dp2 dp
  refine ⟨u, v, rfl, (d1, d2), hA, G1, r, ?_, n1.s, ro1, ((en.mono n1.g).set du).set dv, fun v' d' G' H' n ro pd' dp' => q v' d' G' H' (n1.trans n) ro pd' dp'⟩
  rw [List.getElem?_set_ne nb, List.getElem?_set_ne na]; exact hi
end
section
variable {P : Program} {w : World} {K : PySem.W.Frag} {mg : Str → Option Value} {base : Heap} {f : Addr} {fd : FuncData}
theorem dL_map (ks : List Int) (g : Int → Int) : PyData.list (ks.map fun k => .int (g k)) = dL (ks.map g) := by
  show _ = PyData.list ((ks.map g).map .int)
  rw [List.map_map]; rfl
def fLaying : List PyData → (PyData → Prop) → Prop := fun ds R => ∃ n hs, ds = [dWeb n hs, .int 0] ∧ WebOk n hs ∧ ∀ z, Drawn n hs z → R (dTs z)
theorem ok_law_laying (B : Bl mg) (C_law_taken : Cal P w K mg base 1 "_law_taken" p_law_taken (spR K fTaken)) (C_law_pick : Cal P w K mg base 2 "_law_pick" p_law_pick (spR K fPick)) (C_law_far : Cal P w K mg base 2 "_law_far" p_law_far (spD K fFar)) (C_law_next : Cal P w K mg base 3 "_law_next" p_law_next (spD K fNext)) (F : Fun K "_law_laying" "_law_laying" s_law_laying f fd) : FnOk P w K mg base CX0 4 f fd p_law_laying (spR K fLaying) := by
  refine fun_r F sc_law_laying (fun ds R h => ?_) fun cdv A outer s H E hr ds R h => ?_
  · obtain ⟨n, hs, rfl, _⟩ := h; rfl
  · obtain ⟨n, hs, rfl, hw, hR⟩ := h
    have hnd := sc_law_laying.nd
    have hn := hw.small
    have hp := hw.pos
    refine drb_tup3 (a := 3) (b := 4) (c := 5) (i := 0) (A := fun d1 d2 d3 => ∃ (told : List Int) (kd : Int), FarOk n hs 0 told ∧ d1 = dL told ∧ (0 ≤ kd ∧ kd < 2) ∧ d2 = .int kd ∧ d3 = .none) (by decide) (by decide) (by decide)
      (ps_asg (dr_tup (dra_cons (P := fun d => ∃ told, FarOk n hs 0 told ∧ d = dL told) (dr_of (de_callC C_law_far hr (by decide) (das_cons (de_var 1 rfl) (das_cons (de_int (i := 0)) das_nil)) ⟨n, hs, 0, rfl, hw, hp, fun ks hk => ⟨ks, hk, rfl⟩⟩)) (dra_cons (P := fun d => ∃ kd : Int, (0 ≤ kd ∧ kd < 2) ∧ d = .int kd) (dr_call C_law_taken hr (by decide) (pv 0) (dra_of (das_cons de_int das_nil)) (fun ds e => ⟨2, e, ⟨by decide, by decide⟩, fun v h1 h2 => ⟨v, ⟨h1, h2⟩, rfl⟩⟩)) (dra_cons (P := fun d => d = .none) (dr_of de_non) dra_nil))) (by rintro _ ⟨_, _, _, ⟨_, _, _, ⟨_, _, _, rfl, rfl⟩, rfl⟩, rfl⟩; show 3 ≤ sizeLine; decide))
        (pg_tup rfl (pgs_cons (pg_name (i := 3) hnd rfl (by first | exact Or.inl rfl | exact Or.inr rfl)) (pgs_cons (pg_name (i := 4) hnd rfl (by first | exact Or.inl rfl | exact Or.inr rfl)) (pgs_cons (pg_name (i := 5) hnd rfl (by first | exact Or.inl rfl | exact Or.inr rfl)) pgs_nil)))))
      (by
        rintro d ⟨_, ⟨d1, _, ⟨told, ht, rfl⟩, ⟨d2, _, ⟨kd, hk, rfl⟩, ⟨d3, _, rfl, rfl, rfl⟩, rfl⟩, rfl⟩, rfl⟩
        exact ⟨_, _, _, ⟨told, kd, ht, rfl, hk, rfl, rfl⟩, rfl⟩) ?_
    rintro _ _ _ ⟨told, kd, ht, rfl, hk, rfl, rfl⟩
    have htl := ht.len
    refine drb_for (i := 0) 6 (Pl := fun ds => ∃ m : Nat, 1 ≤ m ∧ m ≤ 1000 ∧ ds = rngP 0 m) (fun ds k ρ1 => ∃ (d5 : PyData) (y6 y7 y8 y9 y10 y11 y12 y13 y14 : Option PyData), ((k = 0 ∧ d5 = .none) ∨ ∃ z, Base n hs z ∧ d5 = dL z) ∧ ρ1 = [none, some (dWeb n hs), some (.int 0), some (dL told), some (.int kd), some d5, y6, y7, y8, y9, y10, y11, y12, y13, y14]) (by decide) PassesOwn.never rfl
      (dri_range1 (A := fun m => 1 ≤ m) B.b_range (dr_op (P := fun d => ∃ v : Int, v = 1 ∧ d = .int v) (Q := fun d => ∃ v : Int, (0 ≤ v ∧ v < 3) ∧ d = .int v) op_add (rd_I0P (A := fun v => v = 1) (B := fun v => 0 ≤ v ∧ v < 3) (D := fun v => 0 ≤ v ∧ v ≤ 1000 ∧ 1 ≤ v.toNat) (fun x y h1 h2 => by omega)) (dr_of (de_imp de_int fun d e => ⟨1, rfl, e⟩)) (dr_call C_law_taken hr (by decide) (pv 0) (dra_of (das_cons de_int das_nil)) (fun ds e => ⟨3, e, ⟨by decide, by decide⟩, fun v h1 h2 => ⟨v, ⟨h1, h2⟩, rfl⟩⟩))))
      (pg_name (i := 6) hnd rfl (by first | exact Or.inl rfl | exact Or.inr rfl)) ?_ ?_ ?_
    · rintro ds k d ρ1 ⟨m, hm1, hm2, rfl⟩ hd ⟨d5, y6, y7, y8, y9, y10, y11, y12, y13, y14, h5, rfl⟩
      refine drn_set 7 (i := 0) (P := fun d => ∃ f : Nat, f < n ∧ d = .int f) (by decide) hnd
        (dr_call C_law_taken hr (by decide) (pv 0) (dra_of (das_cons (de_ixT (de_var 1 rfl) de_int (d := .int n) rfl) das_nil)) (fun ds e => ⟨n, e, ⟨by omega, by omega⟩, fun v h1 h2 => ⟨v.toNat, by omega, by congr 1; omega⟩⟩)) ?_
      rintro _ ⟨f, hf, rfl⟩
      have htf : f < told.length := by omega
      refine drn_set 8 (i := 0) (P := fun d => ∃ v : Int, (∃ t : Int, (0 ≤ t ∧ t < 5) ∧ v = told.getD f 0 + 2 * (t - 2)) ∧ d = .int v) (by decide) hnd
        (dr_op op_add (rd_I0P (A := fun v => v = 0 + told.getD f 0) (B := fun v => ∃ t : Int, (0 ≤ t ∧ t < 5) ∧ v = 2 * (t - 2)) (by rintro x y rfl ⟨t, ht, rfl⟩; exact ⟨t, ht, by omega⟩))
          (dr_of (de_imp (de_add (de_var 2 rfl) (de_ixL (de_var 3 rfl) (de_var 7 rfl) (getI htf))) fun d e => ⟨_, rfl, e⟩))
          (dr_op op_mul (rd_IP (A := fun v => v = 2) (B := fun v => ∃ t : Int, (0 ≤ t ∧ t < 5) ∧ v = t - 2) (D := fun v => ∃ t : Int, (0 ≤ t ∧ t < 5) ∧ v = 2 * (t - 2)) (by rintro x y rfl ⟨t, ht, rfl⟩; exact ⟨.inl (by decide), t, ht, rfl⟩))
            (dr_of (de_imp de_int fun d e => ⟨2, rfl, e⟩))
            (dr_op op_sub (rd_I0P (A := fun v => 0 ≤ v ∧ v < 5) (B := fun v => v = 2) (D := fun v => ∃ t : Int, (0 ≤ t ∧ t < 5) ∧ v = t - 2) (by rintro x y hx rfl; exact ⟨x, hx, rfl⟩))
              (dr_call C_law_taken hr (by decide) (pv 0) (dra_of (das_cons de_int das_nil)) (fun ds e => ⟨5, e, ⟨by decide, by decide⟩, fun v h1 h2 => ⟨v, ⟨h1, h2⟩, rfl⟩⟩))
              (dr_of (de_imp de_int fun d e => ⟨2, rfl, e⟩))))) ?_
      rintro _ ⟨_, ⟨t, ht5, rfl⟩, rfl⟩
      refine drn_set 9 (i := 0) (P := fun d => ∃ away, FarOk n hs f away ∧ d = dL away) (by decide) hnd (dr_of (de_callC C_law_far hr (by decide) (das_cons (de_var 1 rfl) (das_cons (de_var 7 rfl) das_nil)) ⟨n, hs, f, rfl, hw, hf, fun ks hk => ⟨ks, hk, rfl⟩⟩)) ?_
      rintro _ ⟨away, ha, rfl⟩
      have hal := ha.len
      obtain ⟨sm, hsm, hsB⟩ : ∃ sm : List Int, (if kd = 0 then away.map (fun k => told.getD f 0 + 2 * (t - 2) + k) else away.map (fun k => told.getD f 0 + 2 * (t - 2) - k)) = sm ∧ Base n hs sm := by
        refine ⟨_, rfl, ?_⟩
        by_cases e : kd = 0
        · rw [if_pos e]; exact base_up ht ha hw hf ht5
        · rw [if_neg e]; exact base_down ht ha hw hf ht5
      refine drn_set 10 (i := 0) (P := fun d => d = dL sm) (by decide) hnd (dr_of (de_if (x := decide (kd = 0)) (dt_eqI (de_var 4 rfl) de_int)
        (fun e => de_eq (de_lcG (own := [("_law_many", 11)]) (L := away) (enc := .int) (f := fun k => .int (told.getD f 0 + 2 * (t - 2) + k)) rfl hnd (blkOk_by (by kernel_rfl)) (di_listE (de_var 9 rfl)) rfl (fun _ _ _ _ _ => pg_name (i := 11) hnd rfl (by first | exact Or.inl rfl | exact Or.inr rfl)) (fun _ _ => tgN 11) (sz6 (by omega)) (fun _ _ _ _ _ a ha => de_add (de_var 8 rfl) (de_var 11 rfl))) (by rw [← hsm, if_pos (of_decide_eq_true e), dL, List.map_map]; rfl))
        (fun e => de_eq (de_lcG (own := [("_law_many", 11)]) (L := away) (enc := .int) (f := fun k => .int (told.getD f 0 + 2 * (t - 2) - k)) rfl hnd (blkOk_by (by kernel_rfl)) (di_listE (de_var 9 rfl)) rfl (fun _ _ _ _ _ => pg_name (i := 11) hnd rfl (by first | exact Or.inl rfl | exact Or.inr rfl)) (fun _ _ => tgN 11) (sz6 (by omega)) (fun _ _ _ _ _ a ha => de_sub (de_var 8 rfl) (de_var 11 rfl))) (by rw [← hsm, if_neg (of_decide_eq_false e), dL, List.map_map]; rfl)))) ?_
      rintro _ rfl
      have hsl := hsB.lay.len
      have go : ∀ z : List Int, Base n hs z → ∀ y7 y8 y9 y10 y11 y12 y13 y14 : Option PyData, ∃ (d5 : PyData) (z6 z7 z8 z9 z10 z11 z12 z13 z14 : Option PyData), ((k + 1 = 0 ∧ d5 = .none) ∨ ∃ z, Base n hs z ∧ d5 = dL z) ∧ [none, some (dWeb n hs), some (.int 0), some (dL told), some (.int kd), some (dL z), some d, y7, y8, y9, y10, y11, y12, y13, y14] = [none, some (dWeb n hs), some (.int 0), some (dL told), some (.int kd), some d5, z6, z7, z8, z9, z10, z11, z12, z13, z14] := fun z hz y7 y8 y9 y10 y11 y12 y13 y14 => ⟨_, _, _, _, _, _, _, _, _, _, .inr ⟨z, hz, rfl⟩, rfl⟩
      rcases h5 with ⟨rfl, rfl⟩ | ⟨z, hz, rfl⟩
      · refine drn_if (y := true) (S1 := fun ρ' => ∃ (d5 : PyData) (z6 z7 z8 z9 z10 z11 z12 z13 z14 : Option PyData), ((0 + 1 = 0 ∧ d5 = .none) ∨ ∃ z, Base n hs z ∧ d5 = dL z) ∧ ρ' = [none, some (dWeb n hs), some (.int 0), some (dL told), some (.int kd), some d5, z6, z7, z8, z9, z10, z11, z12, z13, z14]) (dt_isN (d := .none) (de_var 5 rfl)) (fun _ => ?_) (fun h => by cases h) (fun ρ' h => drn_nil h)
        refine drn_set 5 (i := 0) (P := fun d => d = dL sm) (by decide) hnd (dr_of (de_var 10 rfl)) ?_
        rintro _ rfl
        exact drn_nil (go sm hsB _ _ _ _ _ _ _ _)
      · refine drn_if (y := false) (S1 := fun ρ' => ∃ (d5 : PyData) (z6 z7 z8 z9 z10 z11 z12 z13 z14 : Option PyData), ((k + 1 = 0 ∧ d5 = .none) ∨ ∃ z, Base n hs z ∧ d5 = dL z) ∧ ρ' = [none, some (dWeb n hs), some (.int 0), some (dL told), some (.int kd), some d5, z6, z7, z8, z9, z10, z11, z12, z13, z14]) (dt_isN (d := dL z) (de_var 5 rfl)) (fun h => by cases h) (fun _ => ?_) (fun ρ' h => drn_nil h)
        have hzl := hz.lay.len
        refine drn_asg (idx := 5) (i := 0) (by decide) (psr_of (ps_lcG (own := [("_law_one", 12), ("_law_other", 13)]) (L := z.zip sm) (enc := fun p => .tuple [.int p.1, .int p.2]) (f := fun p => .int (if kd = 0 then min p.1 p.2 else max p.1 p.2)) rfl hnd rfl rfl (sw_true rfl rfl rfl (by decide +kernel)) (blkOk_by (by kernel_rfl)) (di_zipL B.b_zip (de_var 5 rfl) (de_var 10 rfl)) (zipP_ints z sm) (fun _ _ _ _ _ => pg_tup rfl (pgs_cons (pg_name (i := 12) hnd rfl (by first | exact Or.inl rfl | exact Or.inr rfl)) (pgs_cons (pg_name (i := 13) hnd rfl (by first | exact Or.inl rfl | exact Or.inr rfl)) pgs_nil))) (fun _ _ => tg2 12 13) (sz6 (by rw [List.length_zip]; omega))
          (fun _ _ _ _ _ a ha => de_if (x := decide (kd = 0)) (dt_eqI (de_var 4 rfl) de_int) (fun e => de_eq (de_min2 rfl B.b_min (de_var 12 rfl) (de_var 13 rfl)) (by rw [if_pos (of_decide_eq_true e)])) (fun e => de_eq (de_max2 rfl B.b_max (de_var 12 rfl) (de_var 13 rfl)) (by rw [if_neg (of_decide_eq_false e)]))))) ?_
        rintro _ rfl
        by_cases e : kd = 0
        · have e2 : (PyData.list ((z.zip sm).map fun p => .int (if kd = 0 then min p.1 p.2 else max p.1 p.2))) = dL (mnL z sm) := by
            unfold mnL; rw [dL, List.map_map]; congr 1; refine List.map_congr_left fun p _ => ?_; rw [if_pos e]; rfl
          rw [e2]
          exact drn_nil (go (mnL z sm) (base_mn hw hz hsB) _ _ _ _ _ _ _ _)
        · have e2 : (PyData.list ((z.zip sm).map fun p => .int (if kd = 0 then min p.1 p.2 else max p.1 p.2))) = dL (mxL z sm) := by
            unfold mxL; rw [dL, List.map_map]; congr 1; refine List.map_congr_left fun p _ => ?_; rw [if_neg e]; rfl
          rw [e2]
          exact drn_nil (go (mxL z sm) (base_mx hw hz hsB) _ _ _ _ _ _ _ _)
    · rintro ds _
      exact ⟨.none, none, none, none, none, none, none, none, none, none, .inl ⟨rfl, rfl⟩, rfl⟩
    · rintro ds ρ1 ⟨m, hm1, hm2, rfl⟩ ⟨d5, y6, y7, y8, y9, y10, y11, y12, y13, y14, h5, rfl⟩
      have hl : (rngP 0 m).length = m := by simp [rngP]
      rw [hl] at h5
      obtain ⟨b, hb, rfl⟩ : ∃ z, Base n hs z ∧ d5 = dL z := h5.resolve_left fun h => by omega
      refine drb_set 14 (i := 0) (P := fun d => d = dTs b) (by decide) hnd (dr_of (de_tupleE B.b_tuple (de_var 5 rfl))) ?_
      rintro _ rfl
      refine drb_for (i := 0) 6 (Pl := fun ds => ∃ m : Nat, m ≤ 4 ∧ m ≤ 1000 ∧ ds = rngP 0 m) (fun ds k ρ1 => ∃ (z : List Int) (y5 y6 y7 y8 y9 y10 y11 y12 y13 : Option PyData), Moved n hs b k z ∧ ρ1 = [none, some (dWeb n hs), some (.int 0), some (dL told), some (.int kd), y5, y6, y7, y8, y9, y10, y11, y12, y13, some (dTs z)]) (by decide) PassesOwn.never rfl
        (dri_range1 (A := fun m => m ≤ 4) B.b_range (dr_call C_law_taken hr (by decide) (pv 0) (dra_of (das_cons de_int das_nil)) (fun ds e => ⟨5, e, ⟨by decide, by decide⟩, fun v h1 h2 => ⟨v, ⟨h1, by omega, by omega⟩, rfl⟩⟩)))
        (pg_name (i := 6) hnd rfl (by first | exact Or.inl rfl | exact Or.inr rfl)) ?_ ?_ ?_
      · rintro ds k d ρ1 ⟨m, hm, _, rfl⟩ hd ⟨z, z5, z6, z7, z8, z9, z10, z11, z12, z13, M, rfl⟩
        have hk4 : k < 4 := by
          have := (List.getElem?_eq_some_iff.mp hd).1
          simp [rngP] at this
          omega
        refine drn_set 14 (i := 0) (P := fun d => ∃ v, Moved n hs b (k + 1) v ∧ d = dTs v) (by decide) hnd (dr_call (Ps := fun ds => ∃ L : List (List Int), (L ≠ [] ∧ L.length ≤ 20 ∧ ∀ v ∈ L, Deed n hs z v) ∧ ds = [dLs L]) C_law_pick hr (by decide) (pv 0)
          (dra_of (pa_wk (das_oneR (de_callC (R := fun d => ∃ L : List (List Int), (L ≠ [] ∧ L.length ≤ 20 ∧ ∀ v ∈ L, Deed n hs z v) ∧ d = dLs L) C_law_next hr (by decide) (das_cons (de_var 1 rfl) (das_cons (de_var 14 rfl) das_nil)) ⟨n, hs, z, rfl, ⟨hw, M.lay⟩, fun L h1 h2 h3 => ⟨L, ⟨h1, h2, h3⟩, rfl⟩⟩)) fun σ H Q ⟨G, s, en, q⟩ => ⟨G, s, en, fun vs ds G' H' n ⟨d, ⟨L, hL, e1⟩, e2⟩ dp => q vs ds G' H' n ⟨L, hL, by rw [e2, e1]⟩ dp⟩))
          (by
            rintro _ ⟨L, ⟨h1, h2, h3⟩, rfl⟩
            refine ⟨_, rfl, ⟨by rw [List.length_map]; exact List.length_pos_iff.mpr h1, by rw [List.length_map]; omega⟩, fun d hd => ?_⟩
            obtain ⟨v, hv, rfl⟩ := List.mem_map.mp hd
            exact ⟨v, M.deed hw hb hk4 (h3 v hv), rfl⟩)) ?_
        rintro _ ⟨v, hv, rfl⟩
        exact drn_nil ⟨v, _, _, _, _, _, _, _, _, _, hv, rfl⟩
      · rintro ds _
        exact ⟨b, _, _, _, _, _, _, _, _, _, hb.moved, rfl⟩
      · rintro ds ρ1 ⟨m, hm, _, rfl⟩ ⟨z, z5, z6, z7, z8, z9, z10, z11, z12, z13, M, rfl⟩
        have hl : (rngP 0 m).length = m := by simp [rngP]
        rw [hl] at M
        exact drb_imp (drb_ret (dr_of (de_var 14 rfl))) fun d e => e ▸ hR z (M.drawn hw hb hm)
end
end TW
/-! TWRT: (i,) * n. -/
namespace TW
open PySem PySem.Spec PyProof.Rows L2
theorem tuple_mul1 (l : Addr) (items : Array Value) (n : Nat) (dd : Option Addr) (sl : Array (Option Value)) (u : Tok) :
    Meets (Builtin.«tuple.__mul__» ⟨[.ref l, .int 1 u], []⟩) (fun _ R s => s.heap.get? l = some { cls := .type "tuple", dict := dd, data := .seq items n, slots := sl } ∧ R (.ok (.ret (Value.ref l))) { s with heap := s.heap, toks := s.toks }) :=
  .of_wp fun prog w A R s h => by
    obtain ⟨hp, g, d, tk, os⟩ := s
    obtain ⟨hl, h⟩ := h
    have f1 := AutoSeq1.idx_int
    have c0 : (decide ((1 : Int) < -(2 ^ 63)) || decide ((1 : Int) ≥ 2 ^ 63)) = false := by decide
    have c1 : (items.isEmpty || (1 : Int) == 1) = true := by simp
    wp_walk using wpAny_loadPart' hl
    repeat (first
      | (refine wpAny_ite_false (decide_eq_false (by rw [c0]; exact Bool.false_ne_true)) ?_; wp_walk using wpAny_loadPart' hl)
      | (refine wpAny_ite_true (decide_eq_true (by rw [c1])) ?_; wp_walk using wpAny_loadPart' hl))
    exact ⟨_, rfl, h⟩
theorem rep1 (v : V) : ∀ n : Nat, (List.replicate n [v]).flatten = List.replicate n v
  | 0 => rfl
  | n + 1 => by rw [List.replicate_succ, List.flatten_cons, rep1 v n, List.replicate_succ]; rfl
def rRepO (K : PySem.W.Frag) : R2 := fun x y H Q => ∃ l xs, x = .ref l ∧ y = .int 1 ∧ SqT K H l xs ∧ Q (.ref l) H
section
variable {X : Cx} {ρ : DEnv} {a b : Expr} {pos : Pos}
theorem op_repO : OpR X (binaryOp .Mult) (rRepO X.K) := by
  intro pins s σ H x y v u Q I rx ry h
  obtain ⟨l, xs, rfl, rfl, hT, q⟩ := h
  cases rx
  obtain ⟨t, rfl⟩ := ry
  obtain ⟨its, r, ⟨⟨cls, dd, data, sl⟩, ho, hc, n, hd⟩, hs⟩ := I.tuple hT
  simp only at hc hd
  subst hc hd
  exact wpAny_binaryOp_repeat_ref (T := "tuple") (U := "int") (by decide) ⟨_, ho, rfl⟩ (fun s' => typeIs_int s' 1 t) noFill_tuple_mul F.fills_int_mul F.slot_int_rmul repeat_tuple F.slot_int_index.lookup
    (call_meets F.slot_int_rmul (typeIs_int s 1 t) F.entry_int_rmul (F.args_int_rmul_2 _ _) (int_rmul_tuple 1 t l its.toArray n dd sl)
      ⟨ho, rfl, ⟨_, ho, rfl⟩, call_meets F.slot_tuple_mul ⟨_, ho, rfl⟩ F.entry_tuple_mul (F.args_tuple_mul_2 _ _) (tuple_mul1 l its.toArray n dd sl t) ⟨ho, .ref l, H, I, rfl, q⟩⟩)
theorem de_repT {i : Int} {n : Nat} (ha : De X a ρ (.tuple [.int i])) (hb : De X b ρ (.int n)) (hn : 1 ≤ n ∧ n ≤ 1000) : De X (.BinOp a .Mult b pos) ρ (dTs (List.replicate n i)) := by
  by_cases h1 : n = 1
  · subst h1
    refine de_op op_repO ?_ ha hb
    rintro x y _ _ G H rfl rfl s hx hy k q
    cases hy
    obtain ⟨t, xs, rfl, e1, e2⟩ := dp_tup_inv hx
    exact ⟨t, xs, rfl, rfl, same_t s e1, q _ _ G H (Nxt.refl s) rfl hx⟩
  · refine de_op op_repT ?_ ha hb
    rintro x y _ _ G H rfl rfl s hx hy k q
    cases hy
    obtain ⟨t, xs, rfl, e1, e2⟩ := dp_tup_inv hx
    obtain ⟨v, rfl, dv⟩ := dp1 e2
    cases dv
    refine ⟨t, n, [.int i], rfl, rfl, same_t s e1, by simp, by omega, by omega, by simp, fun p hp => ?_⟩
    have e : (List.replicate (n : Int).toNat [V.int i]).flatten = (List.replicate n i).map V.int := by
      rw [Int.toNat_natCast, List.map_replicate]
      exact rep1 _ _
    rw [e]
    have nn := Nxt.new (o := .tup ((List.replicate n i).map V.int)) s hp
    exact q _ _ _ _ nn rfl (.tup upd_same (dpAll_ints _))
end
end TW
/-! TWLF: what law needs: facts of the called defs, drawing comprehension, ifs. -/
namespace TW
open PySem PySem.Spec PyProof.Rows L2
/-! ### facts -/
section
variable {n : Nat} {hs : List (Nat × Nat)} {x y z v w a b : List Int} {m : Int} {L T : List (List Int)}
theorem drawn_thin (W : WebOk n hs) (A : Drawn n hs z) (B : Drawn n hs v) : Thin n (mnL z v) (mxL z v) := by
  obtain ⟨R, l1, l2⟩ := drawn_rng W A B
  refine ⟨R.1.1.2.1.len, R.1.1.2.2.1.len, fun f hf => by have := l1 f hf; omega, fun f hf => by have := l2 f hf; omega, fun f hf => ?_⟩
  rw [mn_at A.lay B.lay hf, mx_at A.lay B.lay hf]
  have := lay_near W A.lay f hf
  have := lay_near W B.lay f hf
  have := A.spot; have := B.spot
  omega
theorem IsTold.perm {m' : Int} {T' : List (List Int)} (t : IsTold n hs x y w m T) (t' : IsTold n hs x y w m T') : T.length = T'.length :=
  Nat.le_antisymm (nodup_sub_len t.nd fun z hz => (t'.all z).mpr ((t.all z).mp hz)) (nodup_sub_len t'.nd fun z hz => (t.all z).mpr ((t'.all z).mp hz))
theorem f_count (R : Rng n hs x y) (t : Thin n x y) : fCount [dWeb n hs, dTs x, dTs y] (fun d => ∃ k : Int, d = .int k) := ⟨n, hs, x, y, rfl, ⟨R.1, t⟩, fun k => ⟨k, rfl⟩⟩
theorem f_best (R : Rng n hs x y) (hw : WOk n w) (M : IsBest n hs x y w m) : fBest [dWeb n hs, dTs x, dTs y, dTs w] (fun d => d = .int m) := ⟨n, hs, x, y, w, rfl, ⟨R, hw⟩, fun k hk => by rw [hk.uniq M]⟩
theorem f_number (R : Rng n hs x y) (hw : WOk n w) (M : IsBest n hs x y w m) (t : IsTold n hs x y w m T) : fNumber [dWeb n hs, dTs x, dTs y, dTs w] (fun d => d = .int T.length) := ⟨n, hs, x, y, w, rfl, ⟨R, hw⟩, fun k T' hk ht => by
  have e := hk.uniq M
  subst e
  rw [ht.perm (m' := k) t]⟩
theorem f_end {Q : Nat → List (List Int) → List Int → Prop} {R' : PyData → Prop} (R : Rng n hs x y) (hw : WOk n w) (M : IsBest n hs x y w m) (h : ∀ T u, IsTold n hs x y w m T → Q n T u → R' (dTs u)) : fEnd Q [dWeb n hs, dTs x, dTs y, dTs w] R' := ⟨n, hs, x, y, w, rfl, ⟨R, hw⟩, fun k T' u hk ht hq => by
  have e := hk.uniq M
  subst e
  exact h T' u ht hq⟩
theorem f_shows (R : Rng n hs x y) (hw : WOk n w) (hz : Lay n hs z) (M : IsBest n hs x y w m) (t : IsTold n hs x y w m T) : fShows [dWeb n hs, dTs x, dTs y, dTs w, dTs z] (fun d => d = .bool (decide (z ∈ T))) := ⟨n, hs, x, y, w, z, rfl, ⟨R, hw, hz⟩, fun k b hk hb => by
  have e := hk.uniq M
  subst e
  rw [← t.all z] at hb
  congr 1
  by_cases h : z ∈ T
  · rw [hb.mpr h, decide_eq_true h]
  · rw [decide_eq_false h]
    cases b with
    | false => rfl
    | true => exact absurd (hb.mp rfl) h⟩
theorem f_gain (R : Rng n hs x y) (hw : WOk n w) (hz : Btw n hs x y z) (M : IsBest n hs x y w m) : fGain [dWeb n hs, dTs x, dTs y, dTs w, dTs z] (fun d => d = .int (m - wo z w)) := ⟨n, hs, x, y, w, z, rfl, ⟨R, hw, hz⟩, fun k hk => by rw [hk.uniq M]⟩
theorem btw_two (W : WebOk n hs) (A : Btw n hs x y a) (B : Btw n hs x y b) : Two n hs a b := ⟨W, A.lay, B.lay, by have := A.par; have := B.par; omega⟩
theorem f_above (h : Two n hs a b) (hl : ∀ f, f < n → b.getD f 0 ≤ a.getD f 0) : fAbove [dWeb n hs, dTs a, dTs b] (fun d => d = .bool true) := ⟨n, hs, a, b, rfl, h, by
  congr 1
  rw [List.all_eq_true]
  intro p hp
  exact decide_eq_true ((zip_all (Q := fun u v => v ≤ u) h.2.1.len h.2.2.1.len).mpr hl p hp)⟩
theorem f_join {g : Int → Int → Int} (h : Two n hs a b) : fTwoT g [dWeb n hs, dTs a, dTs b] (fun d => d = dTs ((a.zip b).map fun p => g p.1 p.2)) := ⟨n, hs, a, b, rfl, h, rfl⟩
theorem f_moved {c : Int} (W : WebOk n hs) (X : Lay n hs x) (lo : Low n x) (hc : -1000 ≤ c ∧ c ≤ 1000) : fMoved [dWeb n hs, dTs x, .int c] (fun d => d = dTs (mv c x)) := ⟨n, hs, x, c, rfl, ⟨W, X, by omega, lay_mv W X lo hc⟩, rfl⟩
theorem f_within (R : Rng n hs x y) : fSome [dWeb n hs, dTs x, dTs y] (fun d => ∃ L, IsAll n hs x y L ∧ d = dLs L) := ⟨n, hs, x, y, rfl, R, fun L hL => ⟨L, hL, rfl⟩⟩
theorem f_tally {R' : PyData → Prop} (R : Rng n hs x y) (hw : WOk n w) (a : IsAll n hs x y L) (h : ∀ its, Tally L w its → R' (.tuple (its.map encP))) : fTally [dWeb n hs, dTs x, dTs y, dTs w] R' := ⟨n, hs, x, y, w, rfl, ⟨R, hw⟩, fun L' its aL t => h its (by
  have e : ∀ q : List Int → Bool, (L'.filter q).length = (L.filter q).length := fun q => Nat.le_antisymm
    (nodup_sub_len (aL.nd.filter _) fun z hz => by rw [List.mem_filter] at hz ⊢; exact ⟨(a.all z).mpr ((aL.all z).mp hz.1), hz.2⟩)
    (nodup_sub_len (a.nd.filter _) fun z hz => by rw [List.mem_filter] at hz ⊢; exact ⟨(aL.all z).mpr ((a.all z).mp hz.1), hz.2⟩)
  refine ⟨t.srt, fun z hz => t.has z ((aL.all z).mpr ((a.all z).mp hz)), fun p q hp => ?_, by rw [t.sum, aL.perm a]⟩
  obtain ⟨⟨z, hz, ez⟩, h2⟩ := t.of p q hp
  exact ⟨⟨z, (a.all z).mpr ((aL.all z).mp hz), ez⟩, by rw [h2, e]⟩)⟩
theorem wok_rep {c : Int} (hc : -1000000 ≤ c ∧ c ≤ 1000000) : WOk n (List.replicate n c) := ⟨List.length_replicate, fun v hv => by rw [List.eq_of_mem_replicate hv]; exact hc⟩
theorem f_low (R : Rng n hs x y) (lx : Low n x) (ly : Low n y) (Z : Btw n hs x y z) : Low n z := fun f hf => by
  have := Z.btw f hf; have := lx f hf; have := ly f hf
  omega
/-- worths of one, minus one, none -/
theorem low_ones (R : Rng n hs x y) : fEnd Least [dWeb n hs, dTs x, dTs y, dTs (List.replicate n 1)] (fun d => d = dTs y) := f_end R (wok_rep (by decide)) (best_ones R.1).1 fun T u t q => by
  rw [least_one q R.1.1.2.2.1.len fun z hz => (best_ones R.1).2 z ((t.tops z).mp hz)]
theorem high_mones (R : Rng n hs x y) : fEnd Most [dWeb n hs, dTs x, dTs y, dTs (List.replicate n (-1))] (fun d => d = dTs x) := f_end R (wok_rep (by decide)) (best_mones R.1).1 fun T u t q => by
  rw [most_one q R.1.1.2.1.len fun z hz => (best_mones R.1).2 z ((t.tops z).mp hz)]
theorem low_zeros (R : Rng n hs x y) : fEnd Least [dWeb n hs, dTs x, dTs y, dTs (List.replicate n 0)] (fun d => d = dTs x) := f_end R (wok_rep (by decide)) (best_zeros R.1) fun T u t q => by
  rw [least_all R.1 ⟨t.nd, fun z => by rw [t.all z, wo_zeros]; simp⟩ q]
end
/-! ### rules -/
section
variable {X : Cx} {ρ : DEnv} {i : Nat} {a b c e tg iter elt : Expr} {es : List Expr} {P Q R : PyData → Prop} {Ps : List PyData → Prop} {pos p p2 : Pos} {rest body orelse : List Stmt} {S1 : DEnv → Prop} {x : Bool} {st : Stmt} {S : DEnv → Prop}
theorem drb_ifFE (hc : Dt X c ρ x) (he : x = false) (hr : Dr X rest ρ i R) : Dr X (.If c body [] pos :: rest) ρ i R := drb_if (y := false) (he ▸ hc) (fun h => by cases h) fun _ => hr
/-- a test whose answer is not known -/
def tDu (K : PySem.W.Frag) (ρ : DEnv) : TT := fun σ H Q => ∃ G, Same G H ∧ EnvD K G σ ρ ∧ ∀ b G' H', Nxt G H G' H' → Q b H'
theorem dtu_gt (ha : DeR X a ρ (fun d => ∃ k : Int, d = .int k)) {j : Int} (hb : De X b ρ (.int j)) : PT X (.Compare a [.Gt] [b] pos) (tDu X.K ρ) :=
  pt_wk (pt_cmpR op_gt ha hb (nomark _)) fun σ H K' ⟨G, s, en, q⟩ => t_op (R := fun d => ∃ t : Bool, d = .bool t) (by
    rintro u v _ _ G H ⟨k, rfl⟩ rfl s hx hy kk q
    cases hx; cases hy
    exact ⟨k, j, rfl, rfl, q _ _ G H (Nxt.refl s) ⟨_, rfl⟩ (.bl _)⟩) σ H _ ⟨G, s, en, fun v d G' H' n pd dp => by obtain ⟨t, rfl⟩ := pd; cases dp; exact ⟨t, rfl, q t G' H' n⟩⟩
theorem drb_ifU (hc : PT X c (tDu X.K ρ)) (ha : Drn X body ρ i S1) (hb : Drn X orelse ρ i S1) (hr : ∀ ρ', S1 ρ' → Dr X rest ρ' i R) : Dr X (.If c body orelse pos :: rest) ρ i R := by
  refine pss_wk (pss_cons (ps_if hc ha hb) (pss_ex hr)) ?_
  rintro D σ H ⟨G, r, hi, s, row, en, q⟩
  refine ⟨G, s, en, fun t G1 H1 n1 => ?_⟩
  cases t with
  | true =>
    refine iteT ?_
    exact ⟨G1, r, hi, n1.s, row.nxt n1, en.mono n1.g, fun σ2 ρ2 G2 H2 h2 n2 ro2 hS2 en2 => ⟨ρ2, hS2, G2, r, h2, n2.s, ro2, en2, fun v d G' H' n ro pd dp => q v d G' H' ((n1.toR.trans n2).trans n) ro pd dp⟩⟩
  | false =>
    refine iteF ?_
    exact ⟨G1, r, hi, n1.s, row.nxt n1, en.mono n1.g, fun σ2 ρ2 G2 H2 h2 n2 ro2 hS2 en2 => ⟨ρ2, hS2, G2, r, h2, n2.s, ro2, en2, fun v d G' H' n ro pd dp => q v d G' H' ((n1.toR.trans n2).trans n) ro pd dp⟩⟩
theorem rd_ixTP {K : PySem.W.Frag} (h : ∀ dx dy, P dx → Q dy → ∃ ds n d, dx = .tuple ds ∧ dy = .int n ∧ atI ds n = some d ∧ R d) : RD2 K (rIxT K) P Q R := by
  rintro x y dx dy G H pd qd s hx hy k q
  obtain ⟨ds, n, d, rfl, rfl, ha, hR⟩ := h dx dy pd qd
  cases hy
  obtain ⟨t, xs, rfl, h1, h2⟩ := dp_tup_inv hx
  obtain ⟨v, e1, e2⟩ := atI_dp h2 ha
  exact ⟨t, xs, n, v, rfl, rfl, same_t s h1, e1, q v d G H (Nxt.refl s) hR e2⟩
theorem de_ixTP {j : Int} (ha : DeR X a ρ P) (hb : De X b ρ (.int j)) (h : ∀ dx, P dx → ∃ ds d, dx = .tuple ds ∧ atI ds j = some d ∧ R d) (hs : PlainIx b := by exact fun _ _ => rfl) : DeR X (.Subscript a b pos) ρ R :=
  pe_wk (pe_ix ix_tup ha hb hs) (t_op (rd_ixTP (Q := fun d => d = .int j) fun dx dy pd qd => by
    obtain ⟨ds, d, e, h1, h2⟩ := h dx pd
    exact ⟨ds, j, d, e, qd, h1, h2⟩))
/-- a pair told in two -/
theorem de_subP {A B D : Int → Prop} (h : ∀ u v, A u → B v → D (u - v)) (ha : DeR X a ρ (fun d => ∃ v : Int, A v ∧ d = .int v)) (hb : DeR X b ρ (fun d => ∃ v : Int, B v ∧ d = .int v)) : DeR X (.BinOp a .Sub b pos) ρ (fun d => ∃ v : Int, D v ∧ d = .int v) := de_op op_sub (rd_I0P h) ha hb
/-- tuple(list), drawn -/
theorem t_cbR {r : List V → Hp → VK → Prop} {K : PySem.W.Frag} (hr : RDc K r Ps R) : ∀ σ H k, tR K ρ i R σ H k → tCB r (tRs K ρ i Ps) σ H k := by
  rintro σ H k ⟨G, r', hi, s, row, en, q⟩
  exact ⟨G, r', hi, s, row, en, fun xs ds G1 H1 n1 ro1 p1 d1 => hr xs ds G1 H1 p1 n1.s d1 k fun v d G' H' n pd dp => q v d G' H' (n1.trans n.toR) (ro1.nxt n) pd dp⟩
theorem dr_tupleL {P : List PyData → Prop} (hm : X.mg "tuple" = none) (ha : DrR X a ρ i (fun d => ∃ ds, P ds ∧ d = .list ds)) (hg : Gl X "tuple" := by rfl) (hs : starEach [a] X.env = (false, eval a X.env) :: starEach [] X.env := by rfl) : DrR X (.Call (.Name "tuple" p) [a] [] pos) ρ i (fun d => ∃ ds, P ds ∧ d = .tuple ds) := by
  refine pe_wk (pe_callTy call_tuple_of hg hm PyProof.Rows.boot_tuple (dra_cons ha dra_nil hs) (he := hs) (hpl := by rfl)) (t_cbR ?_)
  rintro xs _ G H ⟨_, _, ⟨ds, pd, rfl⟩, rfl, rfl⟩ s dp k q
  obtain ⟨v, rfl, dv⟩ := dp1 dp
  obtain ⟨t, ys, rfl, h1, h2⟩ := dp_lst_inv dv
  refine ⟨t, ys, rfl, .inl ⟨s.seq h1, fun l hl => ?_⟩⟩
  have n := Nxt.new (o := .tup ys) s hl
  exact q _ _ _ _ n ⟨ds, pd, rfl⟩ (.tup upd_same (dpAll_mono n.g h2))
theorem wipe_at : ∀ {vs : List Nat} {σ : L2.St} {i : Nat}, i ∉ vs → (wipe σ vs)[i]? = σ[i]?
  | [], _, _, _ => rfl
  | v :: vs, σ, i, h => by
    show ((wipe σ vs).set v none)[i]? = σ[i]?
    rw [List.getElem?_set_ne (fun e => h (by rw [e]; exact List.mem_cons_self)), wipe_at fun q => h (List.mem_cons_of_mem _ q)]
/-- [elt for tg in iter], elt drawn -/
theorem t_lcR {K : PySem.W.Frag} {α : Type} {L : List α} {enc : α → PyData} {ρof : α → DEnv} {g : TG} {vs : List Nat} {Pe : PyData → Prop} (hiv : i ∉ vs)
    (hg : ∀ a, a ∈ L → TgD K g (wipeD ρ vs) vs (enc a) (ρof a)) (hz : L.length < sizeLine) (hR : ∀ ds : List PyData, ds.length = L.length → (∀ d ∈ ds, Pe d) → R (.list ds)) :
    ∀ σ H Q, tR K ρ i R σ H Q → tLc (tRi K ρ i (fun ds => ds = L.map enc)) g (fun σ H Q => ∃ a, a ∈ L ∧ tDt K (ρof a) true σ H Q) (fun σ H Q => ∃ a, a ∈ L ∧ tR K (ρof a) i Pe σ H Q) vs σ H Q := by
  rintro σ H Q ⟨G, r, hi, s, row, en, q⟩
  refine ⟨G, r, hi, s, row, en, fun J ds G1 H1 n1 ro1 pd it D hD => ?_⟩
  subst pd
  have hlen : (L.map enc).length = L.length := List.length_map ..
  unfold IsIt at it
  rw [hlen] at it
  have hDr : D ≠ r := ro1.ne (xs := none) hD
  refine lc_it (g := g) (tt := fun σ H Q => ∃ a, a ∈ L ∧ tDt K (ρof a) true σ H Q) (te := fun σ H Q => ∃ a, a ∈ L ∧ tR K (ρof a) i Pe σ H Q) (vs := vs) (σ := σ) (H1 := H1) (D := D) (Qd := Q (.ref D)) it (fun j H2 => ∃ G2 acc ds, NxtR r G1 H1 G2 H2 ∧ Row K G2 H2 r ∧ H2 D = some (.lst acc) ∧ G2 D = none ∧ DpAll K G2 acc ds ∧ ds.length = j ∧ ∀ d ∈ ds, Pe d) ?_ (fun j H2 _ ⟨G2, acc, ds, n2, _⟩ => n2.g.trans n2.s) (fun j x H2 H3 hj ⟨G2, acc, ds, n2, ro2, hacc, hGD, hdp, hl, hP⟩ y => ?_) (fun H2 ⟨G2, acc, ds, n2, ro2, hacc, hGD, hdp, hl, hP⟩ => ?_)
  · exact ⟨G1, [], [], (Nxt.new0 n1.s hD).toR, ro1.upd (Ne.symm hDr), upd_same, n1.s.free hD, .nil, rfl, fun d hd => by cases hd⟩
  · obtain ⟨d, hd, hy⟩ := y
    rw [List.getElem?_map, List.getElem?_eq_getElem hj] at hd
    have ed : enc L[j] = d := Option.some.inj hd
    subst ed
    have ha : L[j] ∈ L := List.getElem_mem hj
    obtain ⟨G3, n3, dx⟩ := hy G2 n2.g n2.s
    have n13 := n2.trans n3.toR
    have ro3 := ro2.nxt n3
    have en3 : EnvD K G3 (wipe σ vs) (wipeD ρ vs) := (en.mono (n1.g.trans n13.g)).wipe vs
    refine hg _ ha x (wipe σ vs) G3 H3 _ n3.s en3 dx fun τ2 en2 hw => ⟨hw.trans (wipe_wipe fun _ h => h), L[j], ha, G3, n3.s, en2, fun G4 H4 n4 => ?_⟩
    have hτ : τ2[i]? = some (some (.ref r)) := by
      rw [← wipe_at (σ := τ2) hiv, hw, wipe_at hiv, wipe_at hiv]; exact hi
    have a3 := n3.stay hacc hGD trivial
    have a4 := n4.stay a3.1 a3.2 trivial
    dsimp only
    rw [if_pos rfl]
    refine ⟨L[j], ha, G4, r, hτ, n4.s, ro3.nxt n4, en2.mono n4.g, fun y dy G5 H5 n5 ro5 p5 d5 => ?_⟩
    have a5 := n5.stay hDr a4.1 a4.2 trivial
    have n15 := (n13.trans n4.toR).trans n5
    have hla : acc.length = j := by rw [dpAll_len hdp, hl]
    refine ⟨acc, a5.1, by omega, G5, acc ++ [y], ds ++ [dy], n15.mut hD a5.2, ro5.upd (Ne.symm hDr), upd_same, a5.2, dpAll_app (dpAll_mono ((n3.g.trans n4.g).trans n5.g) hdp) (dpAll_one d5), by rw [List.length_append, hl]; rfl, fun d hd => ?_⟩
    rcases List.mem_append.mp hd with h | h
    · exact hP d h
    · rw [List.mem_singleton.mp h]; exact p5
  · have n3 := n2.take hacc hGD hD
    exact q _ _ _ _ (n1.trans n3) (ro2.take (Ne.symm hDr) hGD) (hR ds hl hP) (.lst (.inl (.inl upd_same)) (dpAll_mono (same_upd hGD) hdp))
variable {scope : Scope} {own : List (Str × Nat)} {α : Type} {L : List α} {enc : α → PyData} {ρof : α → DEnv} {g : TG} {Pe : PyData → Prop}
theorem dr_lc (hc : X.calm = true) (hN : X.N.Nodup) (ok : BlkOk X.N X.env.scope scope own) {ds : List PyData} (hi : Di X tg iter ρ (· = ds)) (hds : ds = L.map enc) (hgP : PGb X scope tg g) (hiv : i ∉ own.map (·.2))
    (hg : ∀ a, a ∈ L → TgD X.K g (wipeD ρ (own.map (·.2))) (own.map (·.2)) (enc a) (ρof a)) (hz : L.length < sizeLine) (hR : ∀ ds : List PyData, ds.length = L.length → (∀ d ∈ ds, Pe d) → R (.list ds))
    (he : ∀ (s : Shared) (H : Hp) (C : Addr) (cl : List (Str × Addr)) (fp : List Addr) (a : α), a ∈ L → DrR (X.blk s H scope (compEnvC scope cl C X.env) fp) elt (ρof a) i Pe)
    (hs : ∀ x, foldedSetIterable iter X.env x = pure x := by intro _; rfl) : DrR X (.ListComp elt [⟨tg, iter, [], 0⟩] scope pos) ρ i R :=
  pe_wk (pe_lc hc hN (dri_of (i := i) (pi_wk hi fun σ H R ⟨G, s, en, q⟩ => ⟨G, s, en, fun J ds' G' H' n pd it => q J ds' G' H' n (pd.trans hds) it⟩)) ok hgP (fun s H C cl fp => pts_ex (A := fun a => a ∈ L) fun a ha => pts_nilD) (fun s H C cl fp => pe_ex (A := fun a => a ∈ L) fun a ha => he s H C cl fp a ha) hs) (t_lcR hiv hg hz hR)
end
end TW
/-! TWLAW: the law. -/
namespace TW
open PySem PySem.Spec PyProof.Rows L2
theorem ints_all {A : Int → Prop} : ∀ ds : List PyData, (∀ d ∈ ds, ∃ v : Int, A v ∧ d = .int v) → ∃ w : List Int, (∀ v ∈ w, A v) ∧ ds = w.map .int
  | [], _ => ⟨[], fun v h => by simp at h, rfl⟩
  | d :: ds, h => by
    obtain ⟨v, hv, rfl⟩ := h d List.mem_cons_self
    obtain ⟨w, hw, rfl⟩ := ints_all ds fun d hd => h d (List.mem_cons_of_mem _ hd)
    exact ⟨v :: w, fun u hu => by
      rcases List.mem_cons.mp hu with rfl | hu
      · exact hv
      · exact hw u hu, rfl⟩
section
variable {n : Nat} {hs : List (Nat × Nat)} {x y z v w : List Int} {m : Int} {L T T' : List (List Int)}
theorem least_of {u : List Int} (h : ∀ z, z ∈ T ↔ z ∈ T') (q : Least n T u) : Least n T' u := ⟨q.1, fun f hf => let ⟨⟨b, hb, e⟩, h2⟩ := q.2 f hf; ⟨⟨b, (h b).mp hb, e⟩, fun b hb => h2 b ((h b).mpr hb)⟩⟩
theorem most_of {u : List Int} (h : ∀ z, z ∈ T ↔ z ∈ T') (q : Most n T u) : Most n T' u := ⟨q.1, fun f hf => let ⟨⟨b, hb, e⟩, h2⟩ := q.2 f hf; ⟨⟨b, (h b).mp hb, e⟩, fun b hb => h2 b ((h b).mpr hb)⟩⟩
theorem tally_len {its : List (Int × Int)} (t : Tally L w its) : its.length ≤ L.length := by
  have nd : (its.map (·.1)).Nodup := by
    unfold List.Nodup
    rw [List.pairwise_map]
    exact t.srt.imp fun {a b} h e => by omega
  have := nodup_sub_len (m := L.map fun z => wo z w) nd fun a ha => by
    obtain ⟨p, hp, rfl⟩ := List.mem_map.mp ha
    obtain ⟨z, hz, e⟩ := (t.of p.1 p.2 hp).1
    exact List.mem_map.mpr ⟨z, hz, e⟩
  rwa [List.length_map, List.length_map] at this
theorem atI_m1 {α : Type} {f : α → PyData} {l : List α} {a : α} (h : l.getLast? = some a) : atI (l.map f) (-1) = some (f a) := by
  have hl : 0 < l.length := by
    cases l with
    | nil => simp at h
    | cons b l => simp
  unfold atI ixN
  rw [if_neg (by omega), List.length_map, if_pos (by omega)]
  rw [show (-1 + (l.length : Int)).toNat = l.length - 1 by omega]
  show (l.map _)[l.length - 1]? = _
  rw [List.getElem?_map, ← List.getLast?_eq_getElem?, h]
  rfl
end
section
variable {X : Cx} {ρ : DEnv} {i k j : Nat} {e : Expr} {es : List Expr} {R : PyData → Prop} {Ps : List PyData → Prop} {pos p : Pos} {x : Str} {ps : List Str} {f : List PyData → (PyData → Prop) → Prop}
/-- a call of a def that draws nothing, its arguments drawn -/
theorem dr_callD (C : Cal X.prog X.w X.K X.mg X.base k x ps (spD X.K f)) (hr : Room j X.A) (hk : k ≤ j) (ha : DrAs X (e :: es) ρ i Ps) (hf : ∀ ds, Ps ds → f ds R) (hg : Gl X x := by rfl) (hdb : (x == ("__debug__" : Str)) = false := by decide)
    (he : starEach (e :: es) X.env = (false, eval e X.env) :: starEach es X.env := by rfl) (hpl : (backTo pos (starEach es X.env)).any (·.1) = false := by rfl) : DrR X (.Call (.Name x p) (e :: es) [] pos) ρ i R := by
  refine pe_wk (pe_callRaw C hr hk ha hg hdb he hpl) ?_
  rintro σ H Q ⟨G, r, hi, s, row, en, q⟩
  exact ⟨G, r, hi, s, row, en, fun vs ds G1 H1 n1 ro1 p1 d1 => ⟨G1, ds, R, n1.s, d1, hf ds p1, fun v d G' H' n pd dp => q v d G' H' (n1.trans n.toR) (ro1.nxt n) pd dp⟩⟩
theorem drb_par3 {a b c : Nat} {st : Stmt} {rest : List Stmt} {A : PyData → PyData → PyData → Prop} (na : a ≠ i) (nb : b ≠ i) (nc : c ≠ i) (h : PS X st (tPar3 a b c (tRs X.K ρ i Ps))) (hP : ∀ ds, Ps ds → ∃ d1 d2 d3, A d1 d2 d3 ∧ ds = [d1, d2, d3])
    (hr : ∀ d1 d2 d3, A d1 d2 d3 → Dr X rest (((ρ.set a (some d1)).set b (some d2)).set c (some d3)) i R) : Dr X (st :: rest) ρ i R := by
  refine pss_wk (pss_cons h (pss_ex (A := fun z : PyData × PyData × PyData => A z.1 z.2.1 z.2.2) fun z hz => hr z.1 z.2.1 z.2.2 hz)) ?_
  rintro D σ H ⟨G, r, hi, s, row, en, q⟩
  refine ⟨G, r, hi, s, row, en, fun vs ds G1 H1 n1 ro1 pd dp => ?_⟩
  obtain ⟨d1, d2, d3, hA, rfl⟩ := hP ds pd
  obtain ⟨u, v, w, rfl, du, dv, dw⟩ := dp3 dp
  refine ⟨u, v, w, rfl, (d1, d2, d3), hA, G1, r, ?_, n1.s, ro1, (((en.mono n1.g).set du).set dv).set dw, fun v' d' G' H' n ro pd' dp' => q v' d' G' H' (n1.trans n) ro pd' dp'⟩
  rw [List.getElem?_set_ne nc, List.getElem?_set_ne nb, List.getElem?_set_ne na]; exact hi
end
section
variable {P : Program} {w0 : World} {K : PySem.W.Frag} {mg : Str → Option Value} {base : Heap} {f : Addr} {fd : FuncData}
def spLaw (K : PySem.W.Frag) : Sp := fun vs H Q _ => ∃ (a : Addr) (ns : List Int), vs = [.ref a] ∧ SqL K H a (ns.map V.int) ∧ ns.length ≤ 63 ∧ ∀ H', Q (.bl true) H'
theorem ok_law (B : Bl mg) (C_law_taken : Cal P w0 K mg base 1 "_law_taken" p_law_taken (spR K fTaken)) (C_law_pick : Cal P w0 K mg base 2 "_law_pick" p_law_pick (spR K fPick)) (C_law_web : Cal P w0 K mg base 4 "_law_web" p_law_web (spR K fWeb)) (C_law_laying : Cal P w0 K mg base 4 "_law_laying" p_law_laying (spR K fLaying)) (C_count_within : Cal P w0 K mg base 9 "count_within" p_count_within (spD K fCount)) (C_within : Cal P w0 K mg base 9 "within" p_within (spD K fSome)) (C_best_worth : Cal P w0 K mg base 10 "best_worth" p_best_worth (spD K fBest)) (C_lowest_best : Cal P w0 K mg base 10 "lowest_best" p_lowest_best (spD K (fEnd Least))) (C_highest_best : Cal P w0 K mg base 10 "highest_best" p_highest_best (spD K (fEnd Most))) (C_shows_best : Cal P w0 K mg base 11 "shows_best" p_shows_best (spD K fShows)) (C_is_above : Cal P w0 K mg base 8 "is_above" p_is_above (spD K fAbove)) (C_best_number : Cal P w0 K mg base 10 "best_number" p_best_number (spD K fNumber)) (C_greater : Cal P w0 K mg base 8 "greater" p_greater (spD K (fTwoT max))) (C_lesser : Cal P w0 K mg base 8 "lesser" p_lesser (spD K (fTwoT min))) (C_worth_tally : Cal P w0 K mg base 10 "worth_tally" p_worth_tally (spD K fTally)) (C_moved : Cal P w0 K mg base 7 "moved" p_moved (spD K fMoved)) (C_worth_gain : Cal P w0 K mg base 11 "worth_gain" p_worth_gain (spD K fGain)) (F : Fun K "law" "law" s_law f fd) : FnOk P w0 K mg base CX0 12 f fd p_law (spLaw K) := by
  refine F.ok sc_law (fun vs H Q E h => ?_) (fun cdv A outer s H vs Q E hr h => ?_)
  · obtain ⟨a, ns, rfl, _⟩ := h; rfl
  obtain ⟨a, ns, rfl, hS, hlen, q⟩ := h
  have hnd := sc_law.nd
  refine ⟨_, pss_cons (ps_set (i := 1) hnd rfl (by first | exact Or.inl rfl | exact Or.inr rfl) (pe_lst (pa_cons (pv 0) (pa_cons pe_int (pa_cons pe_int (pa_cons pe_int pa_nil))))))
    (?law : Dr _ _ [some (dL ns), none, none, none, none, none, none, none, none, none, none, none, none, none, none, none, none, none, none, none, none, none, none] 1 (fun d => d = .bool true)), ?_⟩
  rotate_left
  · refine q_seq (q_set ?_)
    refine ⟨.ref a, rfl, (show 4 ≤ sizeLine by decide), fun p hp => ?_⟩
    have n1 := Nxt.new0 (o := .lst [V.ref a, .int 0, .int 5480, .int 0]) (Same.refl H) hp
    refine ⟨H, p, rfl, n1.s, ⟨.ref a, ns, 0, 5480, 0, upd_same, hp, .lst hS (dpAll_ints ns), by decide, by decide, by decide⟩, evS (.lst hS (dpAll_ints ns)) (evN (evN (evN (evN (evN (evN (evN (evN (evN (evN (evN (evN (evN (evN (evN (evN (evN (evN (evN (evN (evN (evN ev0)))))))))))))))))))))), fun v d G' H' nx ro pd dp => ?_⟩
    subst pd
    cases dp
    exact q H'
  ·
    refine drb_set 2 (i := 1) (P := fun d => ∃ n hs, WebOk n hs ∧ d = dWeb n hs) (by decide) hnd (dr_call C_law_web hr (by decide) (pv 1) (dra_of (das_cons de_int das_nil)) (fun ds e => ⟨e, fun n hs h => ⟨n, hs, h, rfl⟩⟩)) ?_
    rintro _ ⟨n, hs, hw, rfl⟩
    refine drb_par (a := 3) (b := 4) (i := 1) (A := fun d1 d2 => ∃ z v, Drawn n hs z ∧ Drawn n hs v ∧ d1 = dTs z ∧ d2 = dTs v) (by decide) (by decide) (ps_par (i := 3) (j := 4) rfl hnd rfl rfl (by decide) rfl rfl (dra_cons (P := fun d => ∃ z, Drawn n hs z ∧ d = dTs z) (dr_call C_law_laying hr (by decide) (pv 1) (dra_of (das_cons (de_var 2 rfl) (das_cons de_int das_nil))) (fun ds e => ⟨n, hs, e, hw, fun z hz => ⟨z, hz, rfl⟩⟩)) (dra_cons (P := fun d => ∃ z, Drawn n hs z ∧ d = dTs z) (dr_call C_law_laying hr (by decide) (pv 1) (dra_of (das_cons (de_var 2 rfl) (das_cons de_int das_nil))) (fun ds e => ⟨n, hs, e, hw, fun z hz => ⟨z, hz, rfl⟩⟩)) dra_nil)) (by rfl)) (by rintro _ ⟨d1, _, ⟨z, hz, rfl⟩, ⟨d2, _, ⟨v, hv, rfl⟩, rfl, rfl⟩, rfl⟩; exact ⟨_, _, ⟨z, v, hz, hv, rfl, rfl⟩, rfl⟩) ?_
    rintro _ _ ⟨z, v, Dz, Dv, rfl, rfl⟩
    have hzl := Dz.lay.len
    have hvl := Dv.lay.len
    have hn6 := hw.small
    have hn1 := hw.pos
    obtain ⟨R0, lx, ly0⟩ := drawn_rng hw Dz Dv
    have thin := drawn_thin hw Dz Dv
    refine drb_tup2 (a := 5) (b := 6) (i := 1) (A := fun d1 d2 => d1 = dTs (mnL z v) ∧ d2 = dTs (mxL z v)) (by decide) (by decide) (ps_asg (dr_tup (dra_cons (P := fun d => d = dTs (mnL z v)) (dr_of (de_eq (de_tupleE B.b_tuple (de_lcG (own := [("_law_low", 7), ("_law_high", 8)]) (L := z.zip v) (enc := fun p => .tuple [.int p.1, .int p.2]) (f := fun p => .int (min p.1 p.2)) rfl hnd (blkOk_by (by kernel_rfl)) (di_zipT B.b_zip (de_var 3 rfl) (de_var 4 rfl)) (zipP_ints z v) (fun _ _ _ _ _ => pg_tup rfl (pgs_cons (pg_name (i := 7) hnd rfl (by first | exact Or.inl rfl | exact Or.inr rfl)) (pgs_cons (pg_name (i := 8) hnd rfl (by first | exact Or.inl rfl | exact Or.inr rfl)) pgs_nil))) (fun _ _ => tg2 7 8) (sz6 (by rw [List.length_zip]; omega)) (fun _ _ _ _ _ a ha => de_min2 rfl B.b_min (de_var 7 rfl) (de_var 8 rfl)))) (show _ = dTs (mnL z v) by unfold mnL; rw [dTs, List.map_map]; rfl))) (dra_cons (P := fun d => d = dTs (mxL z v)) (dr_of (de_eq (de_tupleE B.b_tuple (de_lcG (own := [("_law_low", 7), ("_law_high", 8)]) (L := z.zip v) (enc := fun p => .tuple [.int p.1, .int p.2]) (f := fun p => .int (max p.1 p.2)) rfl hnd (blkOk_by (by kernel_rfl)) (di_zipT B.b_zip (de_var 3 rfl) (de_var 4 rfl)) (zipP_ints z v) (fun _ _ _ _ _ => pg_tup rfl (pgs_cons (pg_name (i := 7) hnd rfl (by first | exact Or.inl rfl | exact Or.inr rfl)) (pgs_cons (pg_name (i := 8) hnd rfl (by first | exact Or.inl rfl | exact Or.inr rfl)) pgs_nil))) (fun _ _ => tg2 7 8) (sz6 (by rw [List.length_zip]; omega)) (fun _ _ _ _ _ a ha => de_max2 rfl B.b_max (de_var 7 rfl) (de_var 8 rfl)))) (show _ = dTs (mxL z v) by unfold mxL; rw [dTs, List.map_map]; rfl))) dra_nil)) (by rintro _ ⟨_, _, _, ⟨_, _, _, rfl, rfl⟩, rfl⟩; show 2 ≤ sizeLine; decide)) (pg_tup rfl (pgs_cons (pg_name (i := 5) hnd rfl (by first | exact Or.inl rfl | exact Or.inr rfl)) (pgs_cons (pg_name (i := 6) hnd rfl (by first | exact Or.inl rfl | exact Or.inr rfl)) pgs_nil)))) (by rintro _ ⟨_, ⟨_, _, rfl, ⟨_, _, rfl, rfl, rfl⟩, rfl⟩, rfl⟩; exact ⟨_, _, ⟨rfl, rfl⟩, rfl⟩) ?_
    rintro _ _ ⟨rfl, rfl⟩
    generalize mnL z v = x at R0 lx thin ⊢
    generalize mxL z v = y0 at R0 ly0 thin ⊢
    refine drb_ifU (S1 := fun ρ' => ∃ y, Rng n hs x y ∧ Low n y ∧ ρ' = [some (dL ns), none, some (dWeb n hs), some (dTs z), some (dTs v), some (dTs x), some (dTs y), none, none, none, none, none, none, none, none, none, none, none, none, none, none, none, none]) (dtu_gt (de_callC C_count_within hr (by decide) (das_cons (de_var 2 rfl) (das_cons (de_var 5 rfl) (das_cons (de_var 6 rfl) das_nil))) (f_count R0 thin)) de_int) (drn_set 6 (i := 1) (P := fun d => d = dTs x) (by decide) hnd (dr_of (de_var 5 rfl)) (by rintro _ rfl; exact drn_nil ⟨x, rng_floor R0, lx, rfl⟩)) (drn_nil ⟨y0, R0, ly0, rfl⟩) ?_
    rintro _ ⟨y, R, ly, rfl⟩
    have hxl := R.1.1.2.1.len
    have hyl := R.1.1.2.2.1.len
    refine drb_par (a := 9) (b := 10) (i := 1) (A := fun d1 d2 => ∃ L, IsAll n hs x y L ∧ d1 = dLs L ∧ d2 = .int n) (by decide) (by decide) (ps_par (i := 9) (j := 10) rfl hnd rfl rfl (by decide) rfl rfl (dra_of (das_consR (P := fun d => ∃ L, IsAll n hs x y L ∧ d = dLs L) (de_callC C_within hr (by decide) (das_cons (de_var 2 rfl) (das_cons (de_var 5 rfl) (das_cons (de_var 6 rfl) das_nil))) (f_within R)) (das_cons (de_ixT (de_var 2 rfl) de_int (d := .int n) rfl) das_nil))) (by rfl)) (by rintro _ ⟨_, _, ⟨L, hL, rfl⟩, rfl, rfl⟩; exact ⟨_, _, ⟨L, hL, rfl, rfl⟩, rfl⟩) ?_
    rintro _ _ ⟨L, aL, rfl, rfl⟩
    have hLl := aL.le R
    refine drb_set 11 (i := 1) (P := fun d => ∃ w, WOk n w ∧ d = dTs w) (by decide) hnd (dr_imp (dr_tupleL (P := fun ds => ∃ w : List Int, WOk n w ∧ ds = w.map .int) B.b_tuple (dr_lc (own := [("_law_field", 12)]) (L := List.range n) (enc := fun (k : Nat) => .int k) (Pe := fun d => ∃ v : Int, (-3 ≤ v ∧ v ≤ 3) ∧ d = .int v) rfl hnd (blkOk_by (by kernel_rfl)) (di_range1 B.b_range (de_var 10 rfl) (by omega) (by omega)) (rng_nat n) (fun _ _ _ _ _ => pg_name (i := 12) hnd rfl (by first | exact Or.inl rfl | exact Or.inr rfl)) (by decide) (fun _ _ => tgN 12) (sz6 (by rw [List.length_range]; omega)) (fun ds hl hd => by obtain ⟨w, h1, h2⟩ := ints_all ds hd; exact ⟨ds, ⟨w, ⟨by rw [List.length_range, h2, List.length_map] at hl; exact hl, fun v hv => by have := h1 v hv; omega⟩, h2⟩, rfl⟩) (fun _ _ _ _ _ a ha => dr_op op_sub (rd_I0P (A := fun v => 0 ≤ v ∧ v < 7) (B := fun v => v = 3) (D := fun v => -3 ≤ v ∧ v ≤ 3) (fun u v h1 h2 => by omega)) (dr_call C_law_taken hr (by decide) (pv 1) (dra_of (das_cons de_int das_nil)) (fun ds e => ⟨7, e, ⟨by decide, by decide⟩, fun v h1 h2 => ⟨v, ⟨h1, h2⟩, rfl⟩⟩)) (dr_of (de_imp de_int fun d e => ⟨3, rfl, e⟩))))) fun d ⟨ds, ⟨w, h1, h2⟩, e⟩ => ⟨w, h1, by rw [e, h2]⟩) ?_
    rintro _ ⟨w, hW, rfl⟩
    obtain ⟨m, M⟩ := ex_best (w := w) R.1 R.2 aL
    have t : IsTold n hs x y w m (L.filter fun z => decide (wo z w = m)) := aL.told
    have hwl := hW.len
    have hTL : (L.filter fun z => decide (wo z w = m)).length ≤ L.length := List.length_filter_le ..
    obtain ⟨T, hT⟩ : ∃ T, T = L.filter fun z => decide (wo z w = m) := ⟨_, rfl⟩
    rw [← hT] at t hTL
    have hTp : 0 < T.length := List.length_pos_iff.mpr (t.ne M)
    refine drb_par3 (a := 13) (b := 7) (c := 8) (i := 1) (A := fun d1 d2 d3 => ∃ u v, Least n T u ∧ Most n T v ∧ d1 = .int m ∧ d2 = dTs u ∧ d3 = dTs v) (by decide) (by decide) (by decide) (ps_par3 (i := 13) (j := 7) (l := 8) rfl hnd rfl rfl rfl (by decide) (by decide) (by decide) rfl rfl rfl (dra_cons (P := fun d => d = .int m) (dr_of (de_callC C_best_worth hr (by decide) (das_cons (de_var 2 rfl) (das_cons (de_var 5 rfl) (das_cons (de_var 6 rfl) (das_cons (de_var 11 rfl) das_nil)))) (f_best R hW M))) (dra_cons (P := fun d => ∃ u, Least n T u ∧ d = dTs u) (dr_of (de_callC C_lowest_best hr (by decide) (das_cons (de_var 2 rfl) (das_cons (de_var 5 rfl) (das_cons (de_var 6 rfl) (das_cons (de_var 11 rfl) das_nil)))) (f_end R hW M fun T' u t' q => ⟨u, least_of (fun z => by rw [t.all z, t'.all z]) q, rfl⟩))) (dra_cons (P := fun d => ∃ u, Most n T u ∧ d = dTs u) (dr_of (de_callC C_highest_best hr (by decide) (das_cons (de_var 2 rfl) (das_cons (de_var 5 rfl) (das_cons (de_var 6 rfl) (das_cons (de_var 11 rfl) das_nil)))) (f_end R hW M fun T' u t' q => ⟨u, most_of (fun z => by rw [t.all z, t'.all z]) q, rfl⟩))) dra_nil))) (by rfl)) (by rintro _ ⟨_, _, rfl, ⟨_, _, ⟨u, hu, rfl⟩, ⟨_, _, ⟨v, hv, rfl⟩, rfl, rfl⟩, rfl⟩, rfl⟩; exact ⟨_, _, _, ⟨u, v, hu, hv, rfl, rfl, rfl⟩, rfl⟩) ?_
    rintro _ _ _ ⟨lo, hi, hlo, hhi, rfl, rfl, rfl⟩
    have Tlo := least_top hw M t hlo
    have Thi := most_top hw M t hhi
    have mlo : lo ∈ T := (t.tops lo).mpr Tlo
    have mhi : hi ∈ T := (t.tops hi).mpr Thi
    have up : ∀ f, f < n → lo.getD f 0 ≤ hi.getD f 0 := fun f hf => (hlo.2 f hf).2 hi mhi
    refine drb_ifFE (dt_isnot (de_callC C_shows_best hr (by decide) (das_cons (de_var 2 rfl) (das_cons (de_var 5 rfl) (das_cons (de_var 6 rfl) (das_cons (de_var 11 rfl) (das_cons (de_var 7 rfl) das_nil))))) (f_shows R hW Tlo.b.lay M t)) de_bl) (by rw [decide_eq_true mlo]; rfl) ?_
    refine drb_ifFE (dt_w (dw_or (dt_isnot (de_callC C_shows_best hr (by decide) (das_cons (de_var 2 rfl) (das_cons (de_var 5 rfl) (das_cons (de_var 6 rfl) (das_cons (de_var 11 rfl) (das_cons (de_var 8 rfl) das_nil))))) (f_shows R hW Thi.b.lay M t)) de_bl) fun _ => dw_or1 (dt_isnot (de_callC C_is_above hr (by decide) (das_cons (de_var 2 rfl) (das_cons (de_var 8 rfl) (das_cons (de_var 7 rfl) das_nil))) (f_above (btw_two hw Thi.b Tlo.b) up)) de_bl))) (by rw [decide_eq_true mhi]; rfl) ?_
    refine drb_asg (idx := 14) (i := 1) (by decide) (psr_of (ps_lcF (own := [("_law_there", 15)]) (L := L) (enc := dTs) (q := fun z => decide (wo z w = m)) (f := dTs) rfl hnd rfl rfl (sw_true rfl rfl rfl (by decide +kernel)) (blkOk_by (by kernel_rfl)) (di_listE (de_var 9 rfl)) rfl (fun _ _ _ _ _ => pg_name (i := 15) hnd rfl (by first | exact Or.inl rfl | exact Or.inr rfl)) (fun _ _ => tgN 15) (sz6 (by omega)) (fun _ _ _ _ _ a ha => dt_eq (dt_val (de_callC C_shows_best hr (by decide) (das_cons (de_var 2 rfl) (das_cons (de_var 5 rfl) (das_cons (de_var 6 rfl) (das_cons (de_var 11 rfl) (das_cons (de_var 15 rfl) das_nil))))) (f_shows R hW ((aL.all a).mp ha).lay M t))) (by rw [decide_eq_decide, t.all a]; exact ⟨fun h => h.2, fun h => ⟨(aL.all a).mp ha, h⟩⟩)) (fun _ _ _ _ _ a ha hp => (de_var 15 rfl)))) ?_
    rw [← hT]
    rintro _ rfl
    refine drb_ifFE (dt_w (dw_or (dt_neI (de_lenE B.b_len (de_var 14 rfl)) (de_callC C_best_number hr (by decide) (das_cons (de_var 2 rfl) (das_cons (de_var 5 rfl) (das_cons (de_var 6 rfl) (das_cons (de_var 11 rfl) das_nil)))) (f_number R hW M t))) fun _ => dw_or (dt_notIn (hu65 hr) (de_var 7 rfl) (de_var 14 rfl) (sh_dTs _).shaped (sh_dLs T).shaped) fun _ => dw_or1 (dt_notIn (hu65 hr) (de_var 8 rfl) (de_var 14 rfl) (sh_dTs _).shaped (sh_dLs T).shaped))) (by rw [List.length_map, any_dTs, any_dTs, decide_eq_true mlo, decide_eq_true mhi]; simp) ?_
    refine drb_par (a := 16) (b := 17) (i := 1) (A := fun d1 d2 => ∃ u v, u ∈ T ∧ v ∈ T ∧ d1 = dTs u ∧ d2 = dTs v) (by decide) (by decide) (ps_par (i := 16) (j := 17) rfl hnd rfl rfl (by decide) rfl rfl (dra_cons (P := fun d => ∃ u, u ∈ T ∧ d = dTs u) (dr_call C_law_pick hr (by decide) (pv 1) (dra_of (das_cons (de_var 14 rfl) das_nil)) (fun ds e => ⟨_, e, ⟨by rw [List.length_map]; omega, by rw [List.length_map]; omega⟩, fun d hd => by obtain ⟨u, hu, rfl⟩ := List.mem_map.mp hd; exact ⟨u, hu, rfl⟩⟩)) (dra_cons (P := fun d => ∃ u, u ∈ T ∧ d = dTs u) (dr_call C_law_pick hr (by decide) (pv 1) (dra_of (das_cons (de_var 14 rfl) das_nil)) (fun ds e => ⟨_, e, ⟨by rw [List.length_map]; omega, by rw [List.length_map]; omega⟩, fun d hd => by obtain ⟨u, hu, rfl⟩ := List.mem_map.mp hd; exact ⟨u, hu, rfl⟩⟩)) dra_nil)) (by rfl)) (by rintro _ ⟨d1, _, ⟨u, hu, rfl⟩, ⟨d2, _, ⟨v, hv, rfl⟩, rfl, rfl⟩, rfl⟩; exact ⟨_, _, ⟨u, v, hu, hv, rfl, rfl⟩, rfl⟩) ?_
    rintro _ _ ⟨le, ri, mle, mri, rfl, rfl⟩
    have Tle := (t.tops le).mp mle
    have Tri := (t.tops ri).mp mri
    have hj := tops_join hw M Tle Tri
    refine drb_ifFE (dt_w (dw_or (dt_notIn (hu65 hr) (de_callC C_greater hr (by decide) (das_cons (de_var 2 rfl) (das_cons (de_var 16 rfl) (das_cons (de_var 17 rfl) das_nil))) (f_join (btw_two hw Tle.b Tri.b))) (de_var 14 rfl) (sh_dTs _).shaped (sh_dLs T).shaped) fun _ => dw_or1 (dt_notIn (hu65 hr) (de_callC C_lesser hr (by decide) (das_cons (de_var 2 rfl) (das_cons (de_var 16 rfl) (das_cons (de_var 17 rfl) das_nil))) (f_join (btw_two hw Tle.b Tri.b))) (de_var 14 rfl) (sh_dTs _).shaped (sh_dLs T).shaped))) (by rw [any_dTs, any_dTs, decide_eq_true (show (((le.zip ri).map fun p => max p.1 p.2) ∈ T) from (t.tops _).mpr hj.1), decide_eq_true (show (((le.zip ri).map fun p => min p.1 p.2) ∈ T) from (t.tops _).mpr hj.2)]; rfl) ?_
    refine drb_ifFE (dt_w (dw_or (dt_isnot (de_callC C_is_above hr (by decide) (das_cons (de_var 2 rfl) (das_cons (de_var 16 rfl) (das_cons (de_var 7 rfl) das_nil))) (f_above (btw_two hw Tle.b Tlo.b) fun f hf => (hlo.2 f hf).2 le mle)) de_bl) fun _ => dw_or1 (dt_isnot (de_callC C_is_above hr (by decide) (das_cons (de_var 2 rfl) (das_cons (de_var 8 rfl) (das_cons (de_var 17 rfl) das_nil))) (f_above (btw_two hw Thi.b Tri.b) fun f hf => (hhi.2 f hf).2 ri mri)) de_bl))) (rfl) ?_
    refine drb_ifFE (dt_neI (de_sumL (P := fun ns => ns.sum = (L.length : Int)) (R := fun d => d = .int L.length) rfl B.b_sum (de_imp (de_lcP (own := [("_law_worth", 18), ("_law_many", 19)]) (P := fun its => Tally L w its) (A := fun _ => True) (enc := encP) (f := fun p : Int × Int => .int p.2) rfl hnd (blkOk_by (by kernel_rfl)) (di_tupR (de_callC C_worth_tally hr (by decide) (das_cons (de_var 2 rfl) (das_cons (de_var 5 rfl) (das_cons (de_var 6 rfl) (das_cons (de_var 11 rfl) das_nil)))) (f_tally (R' := fun d => ∃ ds, (∃ its, Tally L w its ∧ ds = its.map encP) ∧ d = .tuple ds) R hW aL fun its ti => ⟨_, ⟨its, ti, rfl⟩, rfl⟩))) (fun _ _ _ _ _ => pg_tup rfl (pgs_cons (pg_name (i := 18) hnd rfl (by first | exact Or.inl rfl | exact Or.inr rfl)) (pgs_cons (pg_name (i := 19) hnd rfl (by first | exact Or.inl rfl | exact Or.inr rfl)) pgs_nil))) (fun _ _ => tg2 18 19) (fun _ _ _ _ => trivial) (fun its ti => sz6 (by have := tally_len ti; omega)) (fun _ _ _ _ _ a _ => (de_var 19 rfl))) fun d ⟨its, ti, e⟩ => ⟨its.map (·.2), ti.sum, by rw [e, List.map_map]; rfl⟩) (fun ns e => by rw [e])) (de_lenE B.b_len (de_var 9 rfl))) (by rw [List.length_map]; simp) ?_
    refine drb_ifFE (dt_neD (dx := dTs [m, (T.length : Nat)]) (dy := dTs [m, (T.length : Nat)]) (hu64 hr) (de_ixTP (de_callC C_worth_tally hr (by decide) (das_cons (de_var 2 rfl) (das_cons (de_var 5 rfl) (das_cons (de_var 6 rfl) (das_cons (de_var 11 rfl) das_nil)))) (f_tally (R' := fun d => ∃ ds, (∃ its, Tally L w its ∧ ds = its.map encP) ∧ d = .tuple ds) R hW aL fun its ti => ⟨_, ⟨its, ti, rfl⟩, rfl⟩)) (de_neg de_int) (by rintro _ ⟨_, ⟨its, ti, rfl⟩, rfl⟩; have e := tally_last aL R.1 ti M; rw [← hT] at e; exact ⟨_, _, rfl, atI_m1 e, rfl⟩)) (de_eq (de_tup (das_cons (de_var 13 rfl) (das_cons (de_lenE B.b_len (de_var 14 rfl)) das_nil)) (show 2 ≤ sizeLine by decide)) (by rw [List.length_map]; rfl)) (sh_dTs _).shaped (sh_dTs _).shaped) (by rw [eqv_dTs]; simp) ?_
    refine drb_set 20 (i := 1) (P := fun d => d = dTs (w.map fun i => 0 - i)) (by decide) hnd (dr_of (de_eq (de_tupleE B.b_tuple (de_lcG (own := [("_law_worth", 18)]) (L := w) (enc := .int) (f := fun i => .int (0 - i)) rfl hnd (blkOk_by (by kernel_rfl)) (di_tup (de_var 11 rfl)) rfl (fun _ _ _ _ _ => pg_name (i := 18) hnd rfl (by first | exact Or.inl rfl | exact Or.inr rfl)) (fun _ _ => tgN 18) (sz6 (by omega)) (fun _ _ _ _ _ a ha => de_sub de_int (de_var 18 rfl)))) (by rw [dTs, List.map_map]; rfl))) ?_
    rintro _ rfl
    have hWb : WOk n (w.map fun i => 0 - i) := ⟨by rw [List.length_map, hwl], fun v hv => by obtain ⟨u, hu, rfl⟩ := List.mem_map.mp hv; have := hW.bnd u hu; omega⟩
    obtain ⟨mb, Mb⟩ := ex_best (w := w.map fun i => 0 - i) R.1 R.2 aL
    refine drb_ifFE (dt_neI (i := mb) (j := mb) (de_callC C_best_worth hr (by decide) (das_cons (de_var 2 rfl) (das_cons (de_var 5 rfl) (das_cons (de_var 6 rfl) (das_cons (de_var 20 rfl) das_nil)))) (f_best R hWb Mb)) (de_imp (de_subP (A := fun u => u = 0) (B := fun k => 0 - k = mb) (D := fun u => u = mb) (fun u v h1 h2 => by omega) (de_imp de_int fun d e => ⟨0, rfl, e⟩) (de_ixTP (de_imp (de_ixTP (R := fun d => ∃ k c : Int, 0 - k = mb ∧ d = dTs [k, c]) (de_callC C_worth_tally hr (by decide) (das_cons (de_var 2 rfl) (das_cons (de_var 5 rfl) (das_cons (de_var 6 rfl) (das_cons (de_var 11 rfl) das_nil)))) (f_tally (R' := fun d => ∃ ds, (∃ its, Tally L w its ∧ ds = its.map encP) ∧ d = .tuple ds) R hW aL fun its ti => ⟨_, ⟨its, ti, rfl⟩, rfl⟩)) de_int (by rintro _ ⟨_, ⟨its, ti, rfl⟩, rfl⟩; obtain ⟨g, rest, rfl, g1, g2⟩ := tally_first aL R.1 ti; exact ⟨_, encP g, rfl, atI_nat (j := 0) rfl, g.1, g.2, (neg_best aL g1 g2).uniq Mb, rfl⟩)) fun d h => h) de_int (by rintro _ ⟨k, c, hk, rfl⟩; exact ⟨_, .int k, rfl, rfl, k, hk, rfl⟩))) fun d ⟨u, hu, e⟩ => by rw [e, hu])) (by simp) ?_
    refine drb_ifFE (dt_neI (de_callC C_best_worth hr (by decide) (das_cons (de_var 2 rfl) (das_cons (de_var 5 rfl) (das_cons (de_var 6 rfl) (das_cons (de_repT (de_tup (das_cons de_int das_nil) (show 1 ≤ sizeLine by decide)) (de_var 10 rfl) (by omega)) das_nil)))) (f_best R (wok_rep (by decide)) (best_ones R.1).1)) (de_sumT rfl B.b_sum (de_var 6 rfl))) (by simp) ?_
    refine drb_ifFE (dt_neD (hu64 hr) (de_callC C_lowest_best hr (by decide) (das_cons (de_var 2 rfl) (das_cons (de_var 5 rfl) (das_cons (de_var 6 rfl) (das_cons (de_repT (de_tup (das_cons de_int das_nil) (show 1 ≤ sizeLine by decide)) (de_var 10 rfl) (by omega)) das_nil)))) (low_ones R)) (de_var 6 rfl) (sh_dTs _).shaped (sh_dTs _).shaped) (by rw [eqv_dTs]; simp) ?_
    refine drb_ifFE (dt_neD (hu64 hr) (de_callC C_highest_best hr (by decide) (das_cons (de_var 2 rfl) (das_cons (de_var 5 rfl) (das_cons (de_var 6 rfl) (das_cons (de_repT (de_tup (das_cons (de_eq (de_sub de_int de_int) (show _ = PyData.int (-1) from rfl)) das_nil) (show 1 ≤ sizeLine by decide)) (de_var 10 rfl) (by omega)) das_nil)))) (high_mones R)) (de_var 5 rfl) (sh_dTs _).shaped (sh_dTs _).shaped) (by rw [eqv_dTs]; simp) ?_
    refine drb_ifFE (dt_neI (de_callC C_best_number hr (by decide) (das_cons (de_var 2 rfl) (das_cons (de_var 5 rfl) (das_cons (de_var 6 rfl) (das_cons (de_repT (de_tup (das_cons de_int das_nil) (show 1 ≤ sizeLine by decide)) (de_var 10 rfl) (by omega)) das_nil)))) (f_number R (wok_rep (by decide)) (best_zeros R.1) (told_zeros aL))) (de_lenE B.b_len (de_var 9 rfl))) (by rw [List.length_map]; simp) ?_
    refine drb_ifFE (dt_neD (hu64 hr) (de_callC C_lowest_best hr (by decide) (das_cons (de_var 2 rfl) (das_cons (de_var 5 rfl) (das_cons (de_var 6 rfl) (das_cons (de_repT (de_tup (das_cons de_int das_nil) (show 1 ≤ sizeLine by decide)) (de_var 10 rfl) (by omega)) das_nil)))) (low_zeros R)) (de_var 5 rfl) (sh_dTs _).shaped (sh_dTs _).shaped) (by rw [eqv_dTs]; simp) ?_
    have c4 : -1000 ≤ (4 : Int) ∧ (4 : Int) ≤ 1000 := by decide
    refine drb_ifFE (dt_neI (de_callC C_best_worth hr (by decide) (das_cons (de_var 2 rfl) (das_cons (de_callC C_moved hr (by decide) (das_cons (de_var 2 rfl) (das_cons (de_var 5 rfl) (das_cons de_int das_nil))) (f_moved hw R.1.1.2.1 lx c4)) (das_cons (de_callC C_moved hr (by decide) (das_cons (de_var 2 rfl) (das_cons (de_var 6 rfl) (das_cons de_int das_nil))) (f_moved hw R.1.1.2.2.1 ly c4)) (das_cons (de_var 11 rfl) das_nil)))) (f_best (mv_rng R lx ly c4) hW (mv_best R lx ly c4 hwl M))) (de_add (de_var 13 rfl) (de_mul de_int (de_sumT rfl B.b_sum (de_var 11 rfl)) (.inl (by decide))))) (by simp) ?_
    refine drb_set 21 (i := 1) (P := fun d => ∃ u, u ∈ L ∧ d = dTs u) (by decide) hnd (dr_call C_law_pick hr (by decide) (pv 1) (dra_of (das_cons (de_var 9 rfl) das_nil)) (fun ds e => ⟨_, e, ⟨by rw [List.length_map]; omega, by rw [List.length_map]; omega⟩, fun d hd => by obtain ⟨u, hu, rfl⟩ := List.mem_map.mp hd; exact ⟨u, hu, rfl⟩⟩)) ?_
    rintro _ ⟨he, mhe, rfl⟩
    refine drb_set 22 (i := 1) (P := fun d => ∃ c : Int, (0 ≤ c ∧ c ≤ 80) ∧ d = dTs (mv c lo)) (by decide) hnd (dr_callD C_moved hr (by decide) (dra_cons (P := fun d => d = dWeb n hs) (dr_of (de_var 2 rfl)) (dra_cons (P := fun d => d = dTs lo) (dr_of (de_var 7 rfl)) (dra_cons (P := fun d => ∃ c : Int, (0 ≤ c ∧ c ≤ 80) ∧ d = .int c) (dr_op op_mul (rd_IP (A := fun v => v = 2) (B := fun v => 0 ≤ v ∧ v ≤ 40) (D := fun v => 0 ≤ v ∧ v ≤ 80) (fun u v h1 h2 => ⟨.inl (by rw [h1]; decide), by rw [h1]; omega⟩)) (dr_of (de_imp de_int fun d e => ⟨2, rfl, e⟩)) (dr_op op_add (rd_I0P (A := fun v => v = 1) (B := fun v => 0 ≤ v ∧ v < 40) (D := fun v => 0 ≤ v ∧ v ≤ 40) (fun u v h1 h2 => by omega)) (dr_of (de_imp de_int fun d e => ⟨1, rfl, e⟩)) (dr_call C_law_taken hr (by decide) (pv 1) (dra_of (das_cons de_int das_nil)) (fun ds e => ⟨40, e, ⟨by decide, by decide⟩, fun v h1 h2 => ⟨v, ⟨h1, h2⟩, rfl⟩⟩)))) dra_nil))) (by rintro _ ⟨_, _, rfl, ⟨_, _, rfl, ⟨_, _, ⟨c, hc, rfl⟩, rfl, rfl⟩, rfl⟩, rfl⟩; obtain ⟨n', hs', x', b', e1, e2, e3⟩ := f_moved (c := c) hw Tlo.b.lay (f_low R lx ly Tlo.b) (by omega); exact ⟨n', hs', x', b', e1, e2, c, hc, e3⟩)) ?_
    rintro _ ⟨c, hc, rfl⟩
    refine drb_ifFE (dt_neB (de_callC C_shows_best hr (by decide) (das_cons (de_var 2 rfl) (das_cons (de_var 5 rfl) (das_cons (de_var 6 rfl) (das_cons (de_var 11 rfl) (das_cons (de_var 22 rfl) das_nil))))) (f_shows R hW (lay_mv hw Tlo.b.lay (f_low R lx ly Tlo.b) (by omega)) M t)) (de_in (hu65 hr) (de_var 22 rfl) (de_var 14 rfl) (sh_dTs _).shaped (sh_dLs T).shaped)) (by rw [any_dTs]; simp) ?_
    have Bhe := (aL.all he).mp mhe
    have top := M.top he Bhe
    exact drb_ret (dr_of (de_eq (de_and (de_ge (de_callC C_worth_gain hr (by decide) (das_cons (de_var 2 rfl) (das_cons (de_var 5 rfl) (das_cons (de_var 6 rfl) (das_cons (de_var 11 rfl) (das_cons (de_var 21 rfl) das_nil))))) (f_gain R hW ((aL.all he).mp mhe) M)) de_int) fun _ => de_eqB (de_eqI (de_callC C_worth_gain hr (by decide) (das_cons (de_var 2 rfl) (das_cons (de_var 5 rfl) (das_cons (de_var 6 rfl) (das_cons (de_var 11 rfl) (das_cons (de_var 21 rfl) das_nil))))) (f_gain R hW ((aL.all he).mp mhe) M)) de_int) (de_in (hu65 hr) (de_var 21 rfl) (de_var 14 rfl) (sh_dTs _).shaped (sh_dLs T).shaped)) (by rw [any_dTs]; congr 1; rw [decide_eq_true (show (0 : Int) ≤ m - wo he w by omega), Bool.true_and]; refine decide_eq_true ?_; rw [decide_eq_decide, t.all he]; exact ⟨fun h => ⟨Bhe, by omega⟩, fun h => by omega⟩)))
end
end TW
/-! TWALL: all defs by their names. -/
namespace TW
open PySem PySem.Spec PyProof.Rows L2
def HasDef (K : PySem.W.Frag) (x : Str) (st : Stmt) : Prop := ∃ f fd, PySem.W.nsIn K mainGlobals x = some (some (.ref f)) ∧ Fun K x x st f fd
theorem hasDef_mk {K : PySem.W.Frag} {x : Str} {st : Stmt} {f : Addr} {oc : Value} {od an : Option Addr} {osl : Array (Option Value)} {kV doc pm cdv ct : Value} (a : PySem.W.nsIn K mainGlobals x = some (some (.ref f))) (l : K.lookup f = some ⟨oc, od, .func (PySem.W.fnOf x x (defArgs st) (defBody st) (defScope st) .none kV doc pm an cdv ct), osl⟩)
    (c : PySem.W.codeIn K cdv x = true) (k : PySem.W.keepIn K (.ref f) = true) : HasDef K x st := ⟨f, _, a, fun_mk l c k⟩
theorem cal_of {P : Program} {w : World} {K : PySem.W.Frag} {mg : Str → Option Value} {base h : Heap} {x : Str} {st : Stmt} {k : Nat} {ps : List Str} {sp : Sp} (X : K.In h) (G : h.Ns mainGlobals mg) (D : HasDef K x st) (ok : ∀ f fd, Fun K x x st f fd → FnOk P w K mg base CX0 k f fd ps sp)
    (b : ∀ (kV doc pm : Value) (an : Option Addr) (cdv ct : Value) (us : List Value), us.length = ps.length → bindArgs (PySem.W.fnOf x x (defArgs st) (defBody st) (defScope st) .none kV doc pm an cdv ct) ⟨us, []⟩ = pure (ps.zip us)) : Cal P w K mg base k x ps sp := by
  obtain ⟨f, fd, a, F⟩ := D
  exact ⟨f, fd, ok f fd F, PySem.W.mg_of X G a, F.kp, F.binds b⟩
theorem all_mk {l : PySem.W.OpenLaw} {w : World} {K : PySem.W.Frag} {h : Heap} {mg : Str → Option Value} {fa : Addr} (X : K.In h) (G : h.Ns mainGlobals mg) (hfa : mg "law" = some (.ref fa))
    (D_law_taken : HasDef K "_law_taken" s_law_taken)
    (D_law_pick : HasDef K "_law_pick" s_law_pick)
    (D_law_mixed : HasDef K "_law_mixed" s_law_mixed)
    (D_law_tree : HasDef K "_law_tree" s_law_tree)
    (D_law_nears : HasDef K "_law_nears" s_law_nears)
    (D_law_far : HasDef K "_law_far" s_law_far)
    (D_law_web : HasDef K "_law_web" s_law_web)
    (D_law_lows : HasDef K "_law_lows" s_law_lows)
    (D_law_highs : HasDef K "_law_highs" s_law_highs)
    (D_law_changed : HasDef K "_law_changed" s_law_changed)
    (D_law_next : HasDef K "_law_next" s_law_next)
    (D_law_laying : HasDef K "_law_laying" s_law_laying)
    (D_is_int : HasDef K "is_int" s_is_int)
    (D_is_in : HasDef K "is_in" s_is_in)
    (D_is_pair : HasDef K "is_pair" s_is_pair)
    (D_has_form : HasDef K "has_form" s_has_form)
    (D_nears_of : HasDef K "nears_of" s_nears_of)
    (D_reach_of : HasDef K "reach_of" s_reach_of)
    (D_odd_hedge : HasDef K "odd_hedge" s_odd_hedge)
    (D_bar_of : HasDef K "bar_of" s_bar_of)
    (D_need_web : HasDef K "need_web" s_need_web)
    (D_breadth_of : HasDef K "breadth_of" s_breadth_of)
    (D_need_narrow : HasDef K "need_narrow" s_need_narrow)
    (D_is_laying_of : HasDef K "is_laying_of" s_is_laying_of)
    (D_need_laying : HasDef K "need_laying" s_need_laying)
    (D_need_one : HasDef K "need_one" s_need_one)
    (D_need_two : HasDef K "need_two" s_need_two)
    (D_need_bounds : HasDef K "need_bounds" s_need_bounds)
    (D_kept_at : HasDef K "kept_at" s_kept_at)
    (D_choices_at : HasDef K "choices_at" s_choices_at)
    (D_tables_of : HasDef K "tables_of" s_tables_of)
    (D_number_within : HasDef K "number_within" s_number_within)
    (D_count_within : HasDef K "count_within" s_count_within)
    (D_changed : HasDef K "changed" s_changed)
    (D_lows_of : HasDef K "lows_of" s_lows_of)
    (D_highs_of : HasDef K "highs_of" s_highs_of)
    (D_open_deeds : HasDef K "open_deeds" s_open_deeds)
    (D_layings_between : HasDef K "layings_between" s_layings_between)
    (D_within : HasDef K "within" s_within)
    (D_need_worths : HasDef K "need_worths" s_need_worths)
    (D_need_all : HasDef K "need_all" s_need_all)
    (D_worth_of : HasDef K "worth_of" s_worth_of)
    (D_some_of : HasDef K "some_of" s_some_of)
    (D_best_worth : HasDef K "best_worth" s_best_worth)
    (D_lowest_best : HasDef K "lowest_best" s_lowest_best)
    (D_highest_best : HasDef K "highest_best" s_highest_best)
    (D_lies_between : HasDef K "lies_between" s_lies_between)
    (D_shows_best : HasDef K "shows_best" s_shows_best)
    (D_is_above : HasDef K "is_above" s_is_above)
    (D_best_number : HasDef K "best_number" s_best_number)
    (D_greater_of : HasDef K "greater_of" s_greater_of)
    (D_greater : HasDef K "greater" s_greater)
    (D_lesser_of : HasDef K "lesser_of" s_lesser_of)
    (D_lesser : HasDef K "lesser" s_lesser)
    (D_worth_tally : HasDef K "worth_tally" s_worth_tally)
    (D_moved : HasDef K "moved" s_moved)
    (D_worth_gain : HasDef K "worth_gain" s_worth_gain)
    (D_law : HasDef K "law" s_law)
    (z_abs : PySem.W.nsIn K mainGlobals "abs" = some none)
    (z_all : PySem.W.nsIn K mainGlobals "all" = some none)
    (z_any : PySem.W.nsIn K mainGlobals "any" = some none)
    (z_bool : PySem.W.nsIn K mainGlobals "bool" = some none)
    (z_dict : PySem.W.nsIn K mainGlobals "dict" = some none)
    (z_int : PySem.W.nsIn K mainGlobals "int" = some none)
    (z_isinstance : PySem.W.nsIn K mainGlobals "isinstance" = some none)
    (z_len : PySem.W.nsIn K mainGlobals "len" = some none)
    (z_list : PySem.W.nsIn K mainGlobals "list" = some none)
    (z_max : PySem.W.nsIn K mainGlobals "max" = some none)
    (z_min : PySem.W.nsIn K mainGlobals "min" = some none)
    (z_range : PySem.W.nsIn K mainGlobals "range" = some none)
    (z_sorted : PySem.W.nsIn K mainGlobals "sorted" = some none)
    (z_sum : PySem.W.nsIn K mainGlobals "sum" = some none)
    (z_tuple : PySem.W.nsIn K mainGlobals "tuple" = some none)
    (z_zip : PySem.W.nsIn K mainGlobals "zip" = some none)
    {t_MOST_FIELDS : Tok} {t_MOST_HEIGHT : Tok} {t_MOST_LISTED : Tok} {t_MOST_WORTH : Tok} {t_MOST_BREADTH : Tok}
    (v_MOST_FIELDS : PySem.W.nsIn K mainGlobals "MOST_FIELDS" = some (some (.int 60 t_MOST_FIELDS)))
    (v_MOST_HEIGHT : PySem.W.nsIn K mainGlobals "MOST_HEIGHT" = some (some (.int 1000000 t_MOST_HEIGHT)))
    (v_MOST_LISTED : PySem.W.nsIn K mainGlobals "MOST_LISTED" = some (some (.int 500 t_MOST_LISTED)))
    (v_MOST_WORTH : PySem.W.nsIn K mainGlobals "MOST_WORTH" = some (some (.int 1000000 t_MOST_WORTH)))
    (v_MOST_BREADTH : PySem.W.nsIn K mainGlobals "MOST_BREADTH" = some (some (.int 10 t_MOST_BREADTH)))
    : ∃ fd : FuncData, (∀ (s : Shared) (v : Value), BindsTo s fd ⟨[v], []⟩ [("_law_script", v)]) ∧ ∀ base : Heap, K.In base → base.Ns mainGlobals mg → FnOk l.prog w K mg base CX0 12 fa fd ["_law_script"] (spLaw K) := by
  have B : Bl mg := ⟨PySem.W.mg_none_of X G z_abs, PySem.W.mg_none_of X G z_all, PySem.W.mg_none_of X G z_any, PySem.W.mg_none_of X G z_bool, PySem.W.mg_none_of X G z_dict, PySem.W.mg_none_of X G z_int, PySem.W.mg_none_of X G z_isinstance, PySem.W.mg_none_of X G z_len, PySem.W.mg_none_of X G z_list, PySem.W.mg_none_of X G z_max, PySem.W.mg_none_of X G z_min, PySem.W.mg_none_of X G z_range, PySem.W.mg_none_of X G z_sorted, PySem.W.mg_none_of X G z_sum, PySem.W.mg_none_of X G z_tuple, PySem.W.mg_none_of X G z_zip, ⟨_, PySem.W.mg_of X G v_MOST_FIELDS⟩, ⟨_, PySem.W.mg_of X G v_MOST_HEIGHT⟩, ⟨_, PySem.W.mg_of X G v_MOST_LISTED⟩, ⟨_, PySem.W.mg_of X G v_MOST_WORTH⟩, ⟨_, PySem.W.mg_of X G v_MOST_BREADTH⟩⟩
  obtain ⟨f, fd, a, F⟩ := D_law
  have e := hfa.symm.trans (PySem.W.mg_of X G a)
  cases e
  refine ⟨fd, fun s v => ?_, fun base _ _ => ?_⟩
  · obtain ⟨oc, od, kV, doc, pm, an, cdv, ct, osl, rfl, lk, hcd⟩ := F.ex
    exact .of_eq rfl
  have C_law_taken : Cal l.prog w K mg base 1 "_law_taken" p_law_taken (spR K fTaken) := cal_of X G D_law_taken (fun f fd F => ok_law_taken B  F) fun _ _ _ _ _ _ us hl => match us, hl with | [_, _], _ => rfl
  have C_law_pick : Cal l.prog w K mg base 2 "_law_pick" p_law_pick (spR K fPick) := cal_of X G D_law_pick (fun f fd F => ok_law_pick B C_law_taken F) fun _ _ _ _ _ _ us hl => match us, hl with | [_, _], _ => rfl
  have C_law_mixed : Cal l.prog w K mg base 2 "_law_mixed" p_law_mixed (spR K fMixed) := cal_of X G D_law_mixed (fun f fd F => ok_law_mixed B C_law_taken F) fun _ _ _ _ _ _ us hl => match us, hl with | [_, _], _ => rfl
  have C_law_tree : Cal l.prog w K mg base 3 "_law_tree" p_law_tree (spR K fTree) := cal_of X G D_law_tree (fun f fd F => ok_law_tree B C_law_taken C_law_pick C_law_mixed F) fun _ _ _ _ _ _ us hl => match us, hl with | [_, _], _ => rfl
  have C_law_nears : Cal l.prog w K mg base 1 "_law_nears" p_law_nears (spD K fNears) := cal_of X G D_law_nears (fun f fd F => ok_law_nears B  F) fun _ _ _ _ _ _ us hl => match us, hl with | [_], _ => rfl
  have C_law_far : Cal l.prog w K mg base 2 "_law_far" p_law_far (spD K fFar) := cal_of X G D_law_far (fun f fd F => ok_law_far B C_law_nears F) fun _ _ _ _ _ _ us hl => match us, hl with | [_, _], _ => rfl
  have C_law_web : Cal l.prog w K mg base 4 "_law_web" p_law_web (spR K fWeb) := cal_of X G D_law_web (fun f fd F => ok_law_web B C_law_taken C_law_pick C_law_tree C_law_far F) fun _ _ _ _ _ _ us hl => match us, hl with | [_, _], _ => rfl
  have C_law_lows : Cal l.prog w K mg base 2 "_law_lows" p_law_lows (spD K (fLowsL lows)) := cal_of X G D_law_lows (fun f fd F => ok_law_lows B C_law_nears F) fun _ _ _ _ _ _ us hl => match us, hl with | [_, _], _ => rfl
  have C_law_highs : Cal l.prog w K mg base 2 "_law_highs" p_law_highs (spD K (fLowsL highs)) := cal_of X G D_law_highs (fun f fd F => ok_law_highs B C_law_nears F) fun _ _ _ _ _ _ us hl => match us, hl with | [_, _], _ => rfl
  have C_law_changed : Cal l.prog w K mg base 1 "_law_changed" p_law_changed (spD K fChg) := cal_of X G D_law_changed (fun f fd F => ok_law_changed B  F) fun _ _ _ _ _ _ us hl => match us, hl with | [_, _, _], _ => rfl
  have C_law_next : Cal l.prog w K mg base 3 "_law_next" p_law_next (spD K fNext) := cal_of X G D_law_next (fun f fd F => ok_law_next B C_law_lows C_law_highs C_law_changed F) fun _ _ _ _ _ _ us hl => match us, hl with | [_, _], _ => rfl
  have C_law_laying : Cal l.prog w K mg base 4 "_law_laying" p_law_laying (spR K fLaying) := cal_of X G D_law_laying (fun f fd F => ok_law_laying B C_law_taken C_law_pick C_law_far C_law_next F) fun _ _ _ _ _ _ us hl => match us, hl with | [_, _, _], _ => rfl
  have C_is_int : Cal l.prog w K mg base 1 "is_int" p_is_int (spD K fIsInt) := cal_of X G D_is_int (fun f fd F => ok_is_int B  F) fun _ _ _ _ _ _ us hl => match us, hl with | [_], _ => rfl
  have C_is_in : Cal l.prog w K mg base 2 "is_in" p_is_in (spD K fIsIn) := cal_of X G D_is_in (fun f fd F => ok_is_in B C_is_int F) fun _ _ _ _ _ _ us hl => match us, hl with | [_, _, _], _ => rfl
  have C_is_pair : Cal l.prog w K mg base 3 "is_pair" p_is_pair (spD K fIsPair) := cal_of X G D_is_pair (fun f fd F => ok_is_pair B C_is_in F) fun _ _ _ _ _ _ us hl => match us, hl with | [_, _], _ => rfl
  have C_has_form : Cal l.prog w K mg base 4 "has_form" p_has_form (spD K fHasForm) := cal_of X G D_has_form (fun f fd F => ok_has_form B C_is_in C_is_pair F) fun _ _ _ _ _ _ us hl => match us, hl with | [_], _ => rfl
  have C_nears_of : Cal l.prog w K mg base 1 "nears_of" p_nears_of (spD K fNears) := cal_of X G D_nears_of (fun f fd F => ok_nears_of B  F) fun _ _ _ _ _ _ us hl => match us, hl with | [_], _ => rfl
  have C_reach_of : Cal l.prog w K mg base 2 "reach_of" p_reach_of (spD K fReach) := cal_of X G D_reach_of (fun f fd F => ok_reach_of B C_nears_of F) fun _ _ _ _ _ _ us hl => match us, hl with | [_, _], _ => rfl
  have C_odd_hedge : Cal l.prog w K mg base 3 "odd_hedge" p_odd_hedge (spD K fNone) := cal_of X G D_odd_hedge (fun f fd F => ok_odd_hedge B C_reach_of F) fun _ _ _ _ _ _ us hl => match us, hl with | [_], _ => rfl
  have C_bar_of : Cal l.prog w K mg base 4 "bar_of" p_bar_of (spD K fNone) := cal_of X G D_bar_of (fun f fd F => ok_bar_of B C_reach_of C_odd_hedge F) fun _ _ _ _ _ _ us hl => match us, hl with | [_], _ => rfl
  have C_need_web : Cal l.prog w K mg base 5 "need_web" p_need_web (spD K fNone) := cal_of X G D_need_web (fun f fd F => ok_need_web B C_has_form C_bar_of F) fun _ _ _ _ _ _ us hl => match us, hl with | [_], _ => rfl
  have C_breadth_of : Cal l.prog w K mg base 2 "breadth_of" p_breadth_of (spD K fBreadth) := cal_of X G D_breadth_of (fun f fd F => ok_breadth_of B C_nears_of F) fun _ _ _ _ _ _ us hl => match us, hl with | [_], _ => rfl
  have C_need_narrow : Cal l.prog w K mg base 6 "need_narrow" p_need_narrow (spD K fNone) := cal_of X G D_need_narrow (fun f fd F => ok_need_narrow B C_need_web C_breadth_of F) fun _ _ _ _ _ _ us hl => match us, hl with | [_], _ => rfl
  have C_is_laying_of : Cal l.prog w K mg base 3 "is_laying_of" p_is_laying_of (spD K (fBool1 Lay)) := cal_of X G D_is_laying_of (fun f fd F => ok_is_laying_of B C_is_in F) fun _ _ _ _ _ _ us hl => match us, hl with | [_, _], _ => rfl
  have C_need_laying : Cal l.prog w K mg base 4 "need_laying" p_need_laying (spD K (fNone1 Lay)) := cal_of X G D_need_laying (fun f fd F => ok_need_laying B C_is_laying_of F) fun _ _ _ _ _ _ us hl => match us, hl with | [_, _], _ => rfl
  have C_need_one : Cal l.prog w K mg base 6 "need_one" p_need_one (spD K (fNone1 Lay)) := cal_of X G D_need_one (fun f fd F => ok_need_one B C_need_web C_need_laying F) fun _ _ _ _ _ _ us hl => match us, hl with | [_, _], _ => rfl
  have C_need_two : Cal l.prog w K mg base 7 "need_two" p_need_two (spD K fTwo) := cal_of X G D_need_two (fun f fd F => ok_need_two B C_need_one C_need_laying F) fun _ _ _ _ _ _ us hl => match us, hl with | [_, _, _], _ => rfl
  have C_need_bounds : Cal l.prog w K mg base 8 "need_bounds" p_need_bounds (spD K fBnd) := cal_of X G D_need_bounds (fun f fd F => ok_need_bounds B C_need_two F) fun _ _ _ _ _ _ us hl => match us, hl with | [_, _, _], _ => rfl
  have C_kept_at : Cal l.prog w K mg base 1 "kept_at" p_kept_at (spD K fKept) := cal_of X G D_kept_at (fun f fd F => ok_kept_at B  F) fun _ _ _ _ _ _ us hl => match us, hl with | [_, _], _ => rfl
  have C_choices_at : Cal l.prog w K mg base 1 "choices_at" p_choices_at (spCh K) := cal_of X G D_choices_at (fun f fd F => ok_choices_at B  F) fun _ _ _ _ _ _ us hl => match us, hl with | [_, _, _, _, _], _ => rfl
  have C_tables_of : Cal l.prog w K mg base 2 "tables_of" p_tables_of (spTab K) := cal_of X G D_tables_of (fun f fd F => ok_tables_of B C_nears_of C_kept_at C_choices_at F) fun _ _ _ _ _ _ us hl => match us, hl with | [_, _, _], _ => rfl
  have C_number_within : Cal l.prog w K mg base 3 "number_within" p_number_within (spD K fNum) := cal_of X G D_number_within (fun f fd F => ok_number_within B C_tables_of F) fun _ _ _ _ _ _ us hl => match us, hl with | [_, _, _], _ => rfl
  have C_count_within : Cal l.prog w K mg base 9 "count_within" p_count_within (spD K fCount) := cal_of X G D_count_within (fun f fd F => ok_count_within B C_need_narrow C_need_bounds C_number_within F) fun _ _ _ _ _ _ us hl => match us, hl with | [_, _, _], _ => rfl
  have C_changed : Cal l.prog w K mg base 1 "changed" p_changed (spD K fChg) := cal_of X G D_changed (fun f fd F => ok_changed B  F) fun _ _ _ _ _ _ us hl => match us, hl with | [_, _, _], _ => rfl
  have C_lows_of : Cal l.prog w K mg base 2 "lows_of" p_lows_of (spD K (fLows lows)) := cal_of X G D_lows_of (fun f fd F => ok_lows_of B C_nears_of F) fun _ _ _ _ _ _ us hl => match us, hl with | [_, _], _ => rfl
  have C_highs_of : Cal l.prog w K mg base 2 "highs_of" p_highs_of (spD K (fLows highs)) := cal_of X G D_highs_of (fun f fd F => ok_highs_of B C_nears_of F) fun _ _ _ _ _ _ us hl => match us, hl with | [_, _], _ => rfl
  have C_open_deeds : Cal l.prog w K mg base 3 "open_deeds" p_open_deeds (spD K fDeeds) := cal_of X G D_open_deeds (fun f fd F => ok_open_deeds B C_lows_of C_highs_of F) fun _ _ _ _ _ _ us hl => match us, hl with | [_, _, _, _], _ => rfl
  have C_layings_between : Cal l.prog w K mg base 4 "layings_between" p_layings_between (spD K fBetween) := cal_of X G D_layings_between (fun f fd F => ok_layings_between B C_changed C_open_deeds F) fun _ _ _ _ _ _ us hl => match us, hl with | [_, _, _, _], _ => rfl
  have C_within : Cal l.prog w K mg base 9 "within" p_within (spD K fSome) := cal_of X G D_within (fun f fd F => ok_within B C_need_bounds C_layings_between F) fun _ _ _ _ _ _ us hl => match us, hl with | [_, _, _], _ => rfl
  have C_need_worths : Cal l.prog w K mg base 3 "need_worths" p_need_worths (spD K fWs) := cal_of X G D_need_worths (fun f fd F => ok_need_worths B C_is_in F) fun _ _ _ _ _ _ us hl => match us, hl with | [_, _], _ => rfl
  have C_need_all : Cal l.prog w K mg base 9 "need_all" p_need_all (spD K fAll) := cal_of X G D_need_all (fun f fd F => ok_need_all B C_need_web C_need_laying C_need_bounds C_need_worths F) fun _ _ _ _ _ _ us hl => match us, hl with | [_, _, _, _], _ => rfl
  have C_worth_of : Cal l.prog w K mg base 1 "worth_of" p_worth_of (spD K fWo) := cal_of X G D_worth_of (fun f fd F => ok_worth_of B  F) fun _ _ _ _ _ _ us hl => match us, hl with | [_, _], _ => rfl
  have C_some_of : Cal l.prog w K mg base 5 "some_of" p_some_of (spD K fSome) := cal_of X G D_some_of (fun f fd F => ok_some_of B C_layings_between F) fun _ _ _ _ _ _ us hl => match us, hl with | [_, _, _], _ => rfl
  have C_best_worth : Cal l.prog w K mg base 10 "best_worth" p_best_worth (spD K fBest) := cal_of X G D_best_worth (fun f fd F => ok_best_worth B C_need_all C_worth_of C_some_of F) fun _ _ _ _ _ _ us hl => match us, hl with | [_, _, _, _], _ => rfl
  have C_lowest_best : Cal l.prog w K mg base 10 "lowest_best" p_lowest_best (spD K (fEnd Least)) := cal_of X G D_lowest_best (fun f fd F => ok_lowest_best B C_need_all C_worth_of C_some_of F) fun _ _ _ _ _ _ us hl => match us, hl with | [_, _, _, _], _ => rfl
  have C_highest_best : Cal l.prog w K mg base 10 "highest_best" p_highest_best (spD K (fEnd Most)) := cal_of X G D_highest_best (fun f fd F => ok_highest_best B C_need_all C_worth_of C_some_of F) fun _ _ _ _ _ _ us hl => match us, hl with | [_, _, _, _], _ => rfl
  have C_lies_between : Cal l.prog w K mg base 1 "lies_between" p_lies_between (spD K fLies) := cal_of X G D_lies_between (fun f fd F => ok_lies_between B  F) fun _ _ _ _ _ _ us hl => match us, hl with | [_, _, _], _ => rfl
  have C_shows_best : Cal l.prog w K mg base 11 "shows_best" p_shows_best (spD K fShows) := cal_of X G D_shows_best (fun f fd F => ok_shows_best B C_is_laying_of C_lies_between C_worth_of C_best_worth F) fun _ _ _ _ _ _ us hl => match us, hl with | [_, _, _, _, _], _ => rfl
  have C_is_above : Cal l.prog w K mg base 8 "is_above" p_is_above (spD K fAbove) := cal_of X G D_is_above (fun f fd F => ok_is_above B C_need_two F) fun _ _ _ _ _ _ us hl => match us, hl with | [_, _, _], _ => rfl
  have C_best_number : Cal l.prog w K mg base 10 "best_number" p_best_number (spD K fNumber) := cal_of X G D_best_number (fun f fd F => ok_best_number B C_need_all C_worth_of C_some_of F) fun _ _ _ _ _ _ us hl => match us, hl with | [_, _, _, _], _ => rfl
  have C_greater_of : Cal l.prog w K mg base 1 "greater_of" p_greater_of (spD K (fZip max)) := cal_of X G D_greater_of (fun f fd F => ok_greater_of B  F) fun _ _ _ _ _ _ us hl => match us, hl with | [_, _], _ => rfl
  have C_greater : Cal l.prog w K mg base 8 "greater" p_greater (spD K (fTwoT max)) := cal_of X G D_greater (fun f fd F => ok_greater B C_need_two C_greater_of F) fun _ _ _ _ _ _ us hl => match us, hl with | [_, _, _], _ => rfl
  have C_lesser_of : Cal l.prog w K mg base 1 "lesser_of" p_lesser_of (spD K (fZip min)) := cal_of X G D_lesser_of (fun f fd F => ok_lesser_of B  F) fun _ _ _ _ _ _ us hl => match us, hl with | [_, _], _ => rfl
  have C_lesser : Cal l.prog w K mg base 8 "lesser" p_lesser (spD K (fTwoT min)) := cal_of X G D_lesser (fun f fd F => ok_lesser B C_need_two C_lesser_of F) fun _ _ _ _ _ _ us hl => match us, hl with | [_, _, _], _ => rfl
  have C_worth_tally : Cal l.prog w K mg base 10 "worth_tally" p_worth_tally (spD K fTally) := cal_of X G D_worth_tally (fun f fd F => ok_worth_tally B C_need_all C_worth_of C_some_of F) fun _ _ _ _ _ _ us hl => match us, hl with | [_, _, _, _], _ => rfl
  have C_moved : Cal l.prog w K mg base 7 "moved" p_moved (spD K fMoved) := cal_of X G D_moved (fun f fd F => ok_moved B C_is_in C_is_laying_of C_need_one F) fun _ _ _ _ _ _ us hl => match us, hl with | [_, _, _], _ => rfl
  have C_worth_gain : Cal l.prog w K mg base 11 "worth_gain" p_worth_gain (spD K fGain) := cal_of X G D_worth_gain (fun f fd F => ok_worth_gain B C_need_web C_need_laying C_need_two C_lies_between C_need_worths C_worth_of C_best_worth F) fun _ _ _ _ _ _ us hl => match us, hl with | [_, _, _, _, _], _ => rfl
  exact ok_law B C_law_taken C_law_pick C_law_web C_law_laying C_count_within C_within C_best_worth C_lowest_best C_highest_best C_shows_best C_is_above C_best_number C_greater C_lesser C_worth_tally C_moved C_worth_gain F
end TW
open PySem PySem.W PyProof.Rows
set_option maxHeartbeats 0 in
theorem PySem.Challenge.cw_terraces_k80_worths_across_holds : PySem.Challenge.rw_terraces_k80_worths_across.Holds := by
  w_on; o_law; k_head; (case hw => w_witness2)
  k_fill
  refine L2.walk_of (l := PySem.Challenge.rw_terraces_k80_worths_across) (n := 63) (k := 12) (x := "_law_script") (CX := fun _ => L2.CX0) (sp := fun w => TW.spLaw _) rfl (by decide) rfl ⟨rfl, by decide, by decide⟩ (fun w h Y => PySem.W.kIn_of Y) ?F (fun _ _ a ns hl _ hS => ⟨a, ns, rfl, hS, hl, fun _ => rfl⟩) (fun _ _ _ _ _ h => h)
  case F =>
    intro w mg fa h KX G hmg
    refine' TW.all_mk KX G hmg ?d0 ?d1 ?d2 ?d3 ?d4 ?d5 ?d6 ?d7 ?d8 ?d9 ?d10 ?d11 ?d12 ?d13 ?d14 ?d15 ?d16 ?d17 ?d18 ?d19 ?d20 ?d21 ?d22 ?d23 ?d24 ?d25 ?d26 ?d27 ?d28 ?d29 ?d30 ?d31 ?d32 ?d33 ?d34 ?d35 ?d36 ?d37 ?d38 ?d39 ?d40 ?d41 ?d42 ?d43 ?d44 ?d45 ?d46 ?d47 ?d48 ?d49 ?d50 ?d51 ?d52 ?d53 ?d54 ?d55 ?d56 ?d57 ?z0 ?z1 ?z2 ?z3 ?z4 ?z5 ?z6 ?z7 ?z8 ?z9 ?z10 ?z11 ?z12 ?z13 ?z14 ?z15 ?v0 ?v1 ?v2 ?v3 ?v4
    case d0 => refine' TW.hasDef_mk ?a ?l ?c ?k; (case a => k_is); (case l => k_is); (case c => k_is); (case k => k_is)
    case d1 => refine' TW.hasDef_mk ?a ?l ?c ?k; (case a => k_is); (case l => k_is); (case c => k_is); (case k => k_is)
    case d2 => refine' TW.hasDef_mk ?a ?l ?c ?k; (case a => k_is); (case l => k_is); (case c => k_is); (case k => k_is)
    case d3 => refine' TW.hasDef_mk ?a ?l ?c ?k; (case a => k_is); (case l => k_is); (case c => k_is); (case k => k_is)
    case d4 => refine' TW.hasDef_mk ?a ?l ?c ?k; (case a => k_is); (case l => k_is); (case c => k_is); (case k => k_is)
    case d5 => refine' TW.hasDef_mk ?a ?l ?c ?k; (case a => k_is); (case l => k_is); (case c => k_is); (case k => k_is)
    case d6 => refine' TW.hasDef_mk ?a ?l ?c ?k; (case a => k_is); (case l => k_is); (case c => k_is); (case k => k_is)
    case d7 => refine' TW.hasDef_mk ?a ?l ?c ?k; (case a => k_is); (case l => k_is); (case c => k_is); (case k => k_is)
    case d8 => refine' TW.hasDef_mk ?a ?l ?c ?k; (case a => k_is); (case l => k_is); (case c => k_is); (case k => k_is)
    case d9 => refine' TW.hasDef_mk ?a ?l ?c ?k; (case a => k_is); (case l => k_is); (case c => k_is); (case k => k_is)
    case d10 => refine' TW.hasDef_mk ?a ?l ?c ?k; (case a => k_is); (case l => k_is); (case c => k_is); (case k => k_is)
    case d11 => refine' TW.hasDef_mk ?a ?l ?c ?k; (case a => k_is); (case l => k_is); (case c => k_is); (case k => k_is)
    case d12 => refine' TW.hasDef_mk ?a ?l ?c ?k; (case a => k_is); (case l => k_is); (case c => k_is); (case k => k_is)
    case d13 => refine' TW.hasDef_mk ?a ?l ?c ?k; (case a => k_is); (case l => k_is); (case c => k_is); (case k => k_is)
    case d14 => refine' TW.hasDef_mk ?a ?l ?c ?k; (case a => k_is); (case l => k_is); (case c => k_is); (case k => k_is)
    case d15 => refine' TW.hasDef_mk ?a ?l ?c ?k; (case a => k_is); (case l => k_is); (case c => k_is); (case k => k_is)
    case d16 => refine' TW.hasDef_mk ?a ?l ?c ?k; (case a => k_is); (case l => k_is); (case c => k_is); (case k => k_is)
    case d17 => refine' TW.hasDef_mk ?a ?l ?c ?k; (case a => k_is); (case l => k_is); (case c => k_is); (case k => k_is)
    case d18 => refine' TW.hasDef_mk ?a ?l ?c ?k; (case a => k_is); (case l => k_is); (case c => k_is); (case k => k_is)
    case d19 => refine' TW.hasDef_mk ?a ?l ?c ?k; (case a => k_is); (case l => k_is); (case c => k_is); (case k => k_is)
    case d20 => refine' TW.hasDef_mk ?a ?l ?c ?k; (case a => k_is); (case l => k_is); (case c => k_is); (case k => k_is)
    case d21 => refine' TW.hasDef_mk ?a ?l ?c ?k; (case a => k_is); (case l => k_is); (case c => k_is); (case k => k_is)
    case d22 => refine' TW.hasDef_mk ?a ?l ?c ?k; (case a => k_is); (case l => k_is); (case c => k_is); (case k => k_is)
    case d23 => refine' TW.hasDef_mk ?a ?l ?c ?k; (case a => k_is); (case l => k_is); (case c => k_is); (case k => k_is)
    case d24 => refine' TW.hasDef_mk ?a ?l ?c ?k; (case a => k_is); (case l => k_is); (case c => k_is); (case k => k_is)
    case d25 => refine' TW.hasDef_mk ?a ?l ?c ?k; (case a => k_is); (case l => k_is); (case c => k_is); (case k => k_is)
    case d26 => refine' TW.hasDef_mk ?a ?l ?c ?k; (case a => k_is); (case l => k_is); (case c => k_is); (case k => k_is)
    case d27 => refine' TW.hasDef_mk ?a ?l ?c ?k; (case a => k_is); (case l => k_is); (case c => k_is); (case k => k_is)
    case d28 => refine' TW.hasDef_mk ?a ?l ?c ?k; (case a => k_is); (case l => k_is); (case c => k_is); (case k => k_is)
    case d29 => refine' TW.hasDef_mk ?a ?l ?c ?k; (case a => k_is); (case l => k_is); (case c => k_is); (case k => k_is)
    case d30 => refine' TW.hasDef_mk ?a ?l ?c ?k; (case a => k_is); (case l => k_is); (case c => k_is); (case k => k_is)
    case d31 => refine' TW.hasDef_mk ?a ?l ?c ?k; (case a => k_is); (case l => k_is); (case c => k_is); (case k => k_is)
    case d32 => refine' TW.hasDef_mk ?a ?l ?c ?k; (case a => k_is); (case l => k_is); (case c => k_is); (case k => k_is)
    case d33 => refine' TW.hasDef_mk ?a ?l ?c ?k; (case a => k_is); (case l => k_is); (case c => k_is); (case k => k_is)
    case d34 => refine' TW.hasDef_mk ?a ?l ?c ?k; (case a => k_is); (case l => k_is); (case c => k_is); (case k => k_is)
    case d35 => refine' TW.hasDef_mk ?a ?l ?c ?k; (case a => k_is); (case l => k_is); (case c => k_is); (case k => k_is)
    case d36 => refine' TW.hasDef_mk ?a ?l ?c ?k; (case a => k_is); (case l => k_is); (case c => k_is); (case k => k_is)
    case d37 => refine' TW.hasDef_mk ?a ?l ?c ?k; (case a => k_is); (case l => k_is); (case c => k_is); (case k => k_is)
    case d38 => refine' TW.hasDef_mk ?a ?l ?c ?k; (case a => k_is); (case l => k_is); (case c => k_is); (case k => k_is)
    case d39 => refine' TW.hasDef_mk ?a ?l ?c ?k; (case a => k_is); (case l => k_is); (case c => k_is); (case k => k_is)
    case d40 => refine' TW.hasDef_mk ?a ?l ?c ?k; (case a => k_is); (case l => k_is); (case c => k_is); (case k => k_is)
    case d41 => refine' TW.hasDef_mk ?a ?l ?c ?k; (case a => k_is); (case l => k_is); (case c => k_is); (case k => k_is)
    case d42 => refine' TW.hasDef_mk ?a ?l ?c ?k; (case a => k_is); (case l => k_is); (case c => k_is); (case k => k_is)
    case d43 => refine' TW.hasDef_mk ?a ?l ?c ?k; (case a => k_is); (case l => k_is); (case c => k_is); (case k => k_is)
    case d44 => refine' TW.hasDef_mk ?a ?l ?c ?k; (case a => k_is); (case l => k_is); (case c => k_is); (case k => k_is)
    case d45 => refine' TW.hasDef_mk ?a ?l ?c ?k; (case a => k_is); (case l => k_is); (case c => k_is); (case k => k_is)
    case d46 => refine' TW.hasDef_mk ?a ?l ?c ?k; (case a => k_is); (case l => k_is); (case c => k_is); (case k => k_is)
    case d47 => refine' TW.hasDef_mk ?a ?l ?c ?k; (case a => k_is); (case l => k_is); (case c => k_is); (case k => k_is)
    case d48 => refine' TW.hasDef_mk ?a ?l ?c ?k; (case a => k_is); (case l => k_is); (case c => k_is); (case k => k_is)
    case d49 => refine' TW.hasDef_mk ?a ?l ?c ?k; (case a => k_is); (case l => k_is); (case c => k_is); (case k => k_is)
    case d50 => refine' TW.hasDef_mk ?a ?l ?c ?k; (case a => k_is); (case l => k_is); (case c => k_is); (case k => k_is)
    case d51 => refine' TW.hasDef_mk ?a ?l ?c ?k; (case a => k_is); (case l => k_is); (case c => k_is); (case k => k_is)
    case d52 => refine' TW.hasDef_mk ?a ?l ?c ?k; (case a => k_is); (case l => k_is); (case c => k_is); (case k => k_is)
    case d53 => refine' TW.hasDef_mk ?a ?l ?c ?k; (case a => k_is); (case l => k_is); (case c => k_is); (case k => k_is)
    case d54 => refine' TW.hasDef_mk ?a ?l ?c ?k; (case a => k_is); (case l => k_is); (case c => k_is); (case k => k_is)
    case d55 => refine' TW.hasDef_mk ?a ?l ?c ?k; (case a => k_is); (case l => k_is); (case c => k_is); (case k => k_is)
    case d56 => refine' TW.hasDef_mk ?a ?l ?c ?k; (case a => k_is); (case l => k_is); (case c => k_is); (case k => k_is)
    case d57 => refine' TW.hasDef_mk ?a ?l ?c ?k; (case a => k_is); (case l => k_is); (case c => k_is); (case k => k_is)
    (case z0 => k_is)
    (case z1 => k_is)
    (case z2 => k_is)
    (case z3 => k_is)
    (case z4 => k_is)
    (case z5 => k_is)
    (case z6 => k_is)
    (case z7 => k_is)
    (case z8 => k_is)
    (case z9 => k_is)
    (case z10 => k_is)
    (case z11 => k_is)
    (case z12 => k_is)
    (case z13 => k_is)
    (case z14 => k_is)
    (case z15 => k_is)
    (case v0 => k_is)
    (case v1 => k_is)
    (case v2 => k_is)
    (case v3 => k_is)
    (case v4 => k_is)
