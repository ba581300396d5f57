import PyProof.Rows.All
import Wide.All
import OpenK.AllK
import Wide.FinOn
import HandS.ForMost
import HandS.Strs
import HandS.Rev
import HandS.Conv
import HandS.IsInst
import HandS.TupSets
import HandS.DictComp
import HandS.DictTup
import HandS.ListItems
import HandS.SetKeys
import HandS.TupAny
import HandS.Style
import HandS.SortInts
import HandS.CallLocal
import HandS.Walk
import HandS.Deep
import HandS.More
import HandS.Wide
import HandS.WideMore
import HandS.Zip
import HandS.SetFor
import KE.GoesEnum
import KE.GoesMore
import KE.GoesZip
import PyProof.P3In
import KE.KDictPairs
import PyProof.StrBlock2
import PyProof.Rows.ReprR
import PySem.Challenge.RW_eitheronce_k70_whole_orders_of_one_list
set_option Elab.async false
set_option linter.all false
set_option maxRecDepth 100000
set_option maxHeartbeats 4000000
/-! M1: effects (lists of numbers as maps), permutations, words, rows. Plain Lean. -/
namespace Eo

/-- where a map leads a number -/
def ap (f : List Nat) (x : Nat) : Nat := f.getD x 0
/-- first f, then g -/
def cmp (f g : List Nat) : List Nat := f.map (ap g)
def idn (n : Nat) : List Nat := List.range n
structure Ef (n : Nat) (f : List Nat) : Prop where
  len : f.length = n
  lt : ∀ x ∈ f, x < n
structure Pm (n : Nat) (f : List Nat) : Prop where
  len : f.length = n
  lt : ∀ x ∈ f, x < n
  nd : f.Nodup

theorem Pm.ef {n f} (h : Pm n f) : Ef n f := ⟨h.len, h.lt⟩
theorem ap_get {f : List Nat} {x : Nat} (h : x < f.length) : f[x]? = some (ap f x) := by
  unfold ap
  rw [List.getD_eq_getElem?_getD, List.getElem?_eq_getElem h]
  rfl
theorem ap_mem {f : List Nat} {x : Nat} (h : x < f.length) : ap f x ∈ f := List.mem_of_getElem? (ap_get h)
theorem Ef.ap_lt {n f x} (h : Ef n f) (hx : x < n) : ap f x < n := h.lt _ (ap_mem (by rw [h.len]; exact hx))
theorem Pm.ap_lt {n f x} (h : Pm n f) (hx : x < n) : ap f x < n := h.ef.ap_lt hx
theorem ext_ap {n : Nat} {f g : List Nat} (hf : f.length = n) (hg : g.length = n) (h : ∀ x, x < n → ap f x = ap g x) : f = g := by
  apply List.ext_getElem?
  intro i
  by_cases hi : i < n
  · rw [ap_get (by omega), ap_get (by omega), h i hi]
  · rw [List.getElem?_eq_none (by omega), List.getElem?_eq_none (by omega)]
theorem ap_cmp {f g : List Nat} {x : Nat} (h : x < f.length) : ap (cmp f g) x = ap g (ap f x) := by
  have e : (cmp f g)[x]? = some (ap g (ap f x)) := by
    unfold cmp
    rw [List.getElem?_map, ap_get h]
    rfl
  have e2 := ap_get (f := cmp f g) (x := x) (by unfold cmp; rw [List.length_map]; exact h)
  rw [e] at e2
  exact (Option.some.inj e2).symm
theorem cmp_len (f g : List Nat) : (cmp f g).length = f.length := by unfold cmp; exact List.length_map _
theorem idn_len (n : Nat) : (idn n).length = n := List.length_range
theorem ap_idn {n x : Nat} (h : x < n) : ap (idn n) x = x := by
  have e := ap_get (f := idn n) (x := x) (by rw [idn_len]; exact h)
  unfold idn at *
  rw [List.getElem?_range h] at e
  exact (Option.some.inj e).symm
theorem Ef.idn (n : Nat) : Ef n (idn n) := ⟨idn_len n, fun x h => List.mem_range.mp h⟩
theorem Pm.idn (n : Nat) : Pm n (idn n) := ⟨idn_len n, fun x h => List.mem_range.mp h, List.nodup_range⟩
theorem Ef.cmp {n f g} (hf : Ef n f) (hg : Ef n g) : Ef n (cmp f g) := ⟨by rw [cmp_len, hf.len], fun x hx => by
  obtain ⟨y, hy, rfl⟩ := List.mem_map.mp hx
  exact hg.ap_lt (hf.lt y hy)⟩
theorem Pm.inj {n f x y} (h : Pm n f) (hx : x < n) (hy : y < n) (e : ap f x = ap f y) : x = y := by
  have h1 := ap_get (f := f) (x := x) (by rw [h.len]; exact hx)
  have h2 := ap_get (f := f) (x := y) (by rw [h.len]; exact hy)
  rw [← e] at h2
  exact (List.getElem?_inj (by rw [h.len]; exact hx) h.nd).mp (h1.trans h2.symm)
theorem nodup_map {α β : Type} {g : α → β} : ∀ {l : List α}, l.Nodup → (∀ a ∈ l, ∀ b ∈ l, g a = g b → a = b) → (l.map g).Nodup
  | [], _, _ => List.nodup_nil
  | a :: l, h, hi => by
    rw [List.nodup_cons] at h
    rw [List.map_cons, List.nodup_cons]
    refine ⟨fun hm => ?_, nodup_map h.2 fun x hx y hy => hi x (List.mem_cons_of_mem _ hx) y (List.mem_cons_of_mem _ hy)⟩
    obtain ⟨b, hb, e⟩ := List.mem_map.mp hm
    have := hi b (List.mem_cons_of_mem _ hb) a List.mem_cons_self e
    exact h.1 (this ▸ hb)
theorem Pm.of_inj {n f} (h : Ef n f) (hi : ∀ x y, x < n → y < n → ap f x = ap f y → x = y) : Pm n f := ⟨h.len, h.lt, by
  have e : f = (List.range n).map (ap f) := by
    apply List.ext_getElem?
    intro i
    by_cases hi : i < n
    · rw [ap_get (by rw [h.len]; exact hi), List.getElem?_map, List.getElem?_range hi]
      rfl
    · rw [List.getElem?_eq_none (by rw [h.len]; omega), List.getElem?_eq_none (by rw [List.length_map, List.length_range]; omega)]
  rw [e]
  exact nodup_map List.nodup_range fun a ha b hb => hi a b (List.mem_range.mp ha) (List.mem_range.mp hb)⟩
theorem Pm.cmp {n f g} (hf : Pm n f) (hg : Pm n g) : Pm n (cmp f g) := Pm.of_inj (hf.ef.cmp hg.ef) fun x y hx hy e => by
  rw [ap_cmp (by rw [hf.len]; exact hx), ap_cmp (by rw [hf.len]; exact hy)] at e
  exact hf.inj hx hy (hg.inj (hf.ap_lt hx) (hf.ap_lt hy) e)

/-! pigeonholes -/
theorem sub_len {α : Type} [DecidableEq α] : ∀ {l m : List α}, l.Nodup → (∀ x ∈ l, x ∈ m) → l.length ≤ m.length
  | [], _, _, _ => Nat.zero_le _
  | a :: l, m, h, hs => by
    rw [List.nodup_cons] at h
    have ha : a ∈ m := hs a List.mem_cons_self
    have := sub_len (l := l) (m := m.erase a) h.2 fun x hx => by
      have hne : x ≠ a := fun e => h.1 (e ▸ hx)
      exact (List.mem_erase_of_ne hne).mpr (hs x (List.mem_cons_of_mem _ hx))
    rw [List.length_erase_of_mem ha] at this
    have hm : 0 < m.length := List.length_pos_of_mem ha
    rw [List.length_cons]
    omega
theorem sub_all {α : Type} [DecidableEq α] {l m : List α} (h : l.Nodup) (hs : ∀ x ∈ l, x ∈ m) (hl : m.length ≤ l.length) : ∀ x ∈ m, x ∈ l := fun x hx => by
  by_cases hxl : x ∈ l
  · exact hxl
  · have := sub_len (l := x :: l) (m := m) (List.nodup_cons.mpr ⟨hxl, h⟩) fun y hy => by
      rcases List.mem_cons.mp hy with rfl | hy
      · exact hx
      · exact hs y hy
    rw [List.length_cons] at this
    omega
theorem nodup_lt_len {l : List Nat} {n : Nat} (h : l.Nodup) (hl : ∀ x ∈ l, x < n) : l.length ≤ n := by
  have := sub_len (m := List.range n) h fun x hx => List.mem_range.mpr (hl x hx)
  rw [List.length_range] at this
  exact this
theorem Pm.surj {n f y} (h : Pm n f) (hy : y < n) : ∃ x, x < n ∧ ap f x = y := by
  have hm : y ∈ f := sub_all (m := List.range n) h.nd (fun x hx => List.mem_range.mpr (h.lt x hx)) (by rw [List.length_range, h.len]; exact Nat.le_refl _) y (List.mem_range.mpr hy)
  obtain ⟨x, hx, e⟩ := List.getElem_of_mem hm
  refine ⟨x, by rw [← h.len]; exact hx, ?_⟩
  have := ap_get hx
  rw [List.getElem?_eq_getElem hx, e] at this
  exact (Option.some.inj this).symm

/-! the algebra -/
theorem cmp_assoc {n f g h} (hf : Ef n f) (hg : Ef n g) : cmp (cmp f g) h = cmp f (cmp g h) := by
  refine ext_ap (n := n) (by rw [cmp_len, cmp_len, hf.len]) (by rw [cmp_len, hf.len]) fun x hx => ?_
  rw [ap_cmp (by rw [cmp_len, hf.len]; exact hx), ap_cmp (by rw [hf.len]; exact hx), ap_cmp (by rw [hf.len]; exact hx), ap_cmp (by rw [hg.len]; exact hf.ap_lt hx)]
theorem id_cmp {n f} (hf : Ef n f) : cmp (idn n) f = f := ext_ap (n := n) (by rw [cmp_len, idn_len]) hf.len fun x hx => by
  rw [ap_cmp (by rw [idn_len]; exact hx), ap_idn hx]
theorem cmp_id {n f} (hf : Ef n f) : cmp f (idn n) = f := ext_ap (n := n) (by rw [cmp_len, hf.len]) hf.len fun x hx => by
  rw [ap_cmp (by rw [hf.len]; exact hx), ap_idn (hf.ap_lt hx)]
/-- the map back -/
def inv (f : List Nat) : List Nat := (List.range f.length).map fun y => f.idxOf y
theorem inv_len (f : List Nat) : (inv f).length = f.length := by unfold inv; rw [List.length_map, List.length_range]
theorem ap_inv {n f x} (h : Pm n f) (hx : x < n) : ap (inv f) (ap f x) = x := by
  have hlt := h.ap_lt hx
  have e : (inv f)[ap f x]? = some (f.idxOf (ap f x)) := by
    unfold inv
    rw [List.getElem?_map, List.getElem?_range (by rw [h.len]; exact hlt)]
    rfl
  have e2 := ap_get (f := inv f) (x := ap f x) (by rw [inv_len, h.len]; exact hlt)
  rw [e] at e2
  rw [← Option.some.inj e2]
  have hm : ap f x ∈ f := ap_mem (by rw [h.len]; exact hx)
  have hil : f.idxOf (ap f x) < f.length := List.idxOf_lt_length_of_mem hm
  have e3 : f[f.idxOf (ap f x)] = ap f x := List.getElem_idxOf hil
  refine h.inj (by rw [← h.len]; exact hil) hx ?_
  have e4 := ap_get hil
  rw [List.getElem?_eq_getElem hil, e3] at e4
  exact (Option.some.inj e4).symm
theorem Pm.inv {n f} (h : Pm n f) : Pm n (inv f) := by
  have hE : Ef n (Eo.inv f) := ⟨by rw [inv_len, h.len], fun y hy => by
    obtain ⟨x, hx, rfl⟩ := List.mem_map.mp hy
    rw [List.mem_range] at hx
    obtain ⟨z, hz, e⟩ := h.surj (y := x) (by rw [← h.len]; exact hx)
    rw [← h.len]
    exact List.idxOf_lt_length_of_mem (by rw [← e]; exact ap_mem (by rw [h.len]; exact hz))⟩
  refine Pm.of_inj hE fun x y hx hy e => ?_
  obtain ⟨a, ha, rfl⟩ := h.surj hx
  obtain ⟨b, hb, rfl⟩ := h.surj hy
  rw [ap_inv h ha, ap_inv h hb] at e
  rw [e]
theorem cmp_inv {n f} (h : Pm n f) : cmp f (inv f) = idn n := ext_ap (n := n) (by rw [cmp_len, h.len]) (idn_len n) fun x hx => by
  rw [ap_cmp (by rw [h.len]; exact hx), ap_inv h hx, ap_idn hx]
theorem inv_cmp {n f} (h : Pm n f) : cmp (inv f) f = idn n := ext_ap (n := n) (by rw [cmp_len, inv_len, h.len]) (idn_len n) fun y hy => by
  obtain ⟨x, hx, rfl⟩ := h.surj hy
  rw [ap_cmp (by rw [inv_len, h.len]; exact hy), ap_inv h hx, ap_idn hy]
theorem cancel_l {n f g h} (hf : Pm n f) (hg : Ef n g) (hh : Ef n h) (e : cmp f g = cmp f h) : g = h := by
  have e2 : cmp (inv f) (cmp f g) = cmp (inv f) (cmp f h) := by rw [e]
  rw [← cmp_assoc hf.inv.ef hf.ef, ← cmp_assoc hf.inv.ef hf.ef, inv_cmp hf, id_cmp hg, id_cmp hh] at e2
  exact e2
theorem cancel_r {n f g h} (hf : Pm n f) (hg : Ef n g) (hh : Ef n h) (e : cmp g f = cmp h f) : g = h := by
  have e2 : cmp (cmp g f) (inv f) = cmp (cmp h f) (inv f) := by rw [e]
  rw [cmp_assoc hg hf.ef, cmp_assoc hh hf.ef, cmp_inv hf, cmp_id hg, cmp_id hh] at e2
  exact e2
theorem inv_uniq {n f g} (hf : Pm n f) (hg : Ef n g) (e : cmp f g = idn n) : g = inv f := by
  have e2 : cmp f g = cmp f (inv f) := by rw [e, cmp_inv hf]
  exact cancel_l hf hg hf.inv.ef e2
/-- powers -/
def pw (n : Nat) (f : List Nat) : Nat → List Nat
  | 0 => idn n
  | k + 1 => cmp f (pw n f k)
theorem Ef.pw {n f} (h : Ef n f) : ∀ k, Ef n (pw n f k)
  | 0 => Ef.idn n
  | k + 1 => h.cmp (Ef.pw h k)
theorem Pm.pw {n f} (h : Pm n f) : ∀ k, Pm n (pw n f k)
  | 0 => Pm.idn n
  | k + 1 => h.cmp (Pm.pw h k)
theorem pw_add {n f} (h : Ef n f) : ∀ i j, pw n f (i + j) = cmp (pw n f i) (pw n f j)
  | 0, j => by rw [Nat.zero_add]; exact (id_cmp (h.pw j)).symm
  | i + 1, j => by
    rw [Nat.succ_add]
    show Eo.cmp f (Eo.pw n f (i + j)) = Eo.cmp (Eo.cmp f (Eo.pw n f i)) (Eo.pw n f j)
    rw [pw_add h i j, cmp_assoc h (h.pw i)]
theorem pw_mul {n f} (h : Ef n f) (i : Nat) : ∀ j, pw n f (i * j) = pw n (pw n f i) j
  | 0 => rfl
  | j + 1 => by
    rw [Nat.mul_succ, Nat.add_comm, pw_add h, pw_mul h i j]
    rfl
theorem pw_one {n f} (h : Ef n f) : pw n f 1 = f := cmp_id h
theorem pw_id (n : Nat) : ∀ k, pw n (idn n) k = idn n
  | 0 => rfl
  | k + 1 => by
    show Eo.cmp (Eo.idn n) (pw n (Eo.idn n) k) = Eo.idn n
    rw [pw_id n k, id_cmp (Ef.idn n)]
theorem pw_dvd {n f r k} (h : Ef n f) (hr : pw n f r = idn n) (hd : r ∣ k) : pw n f k = idn n := by
  obtain ⟨j, rfl⟩ := hd
  rw [pw_mul h, hr, pw_id]
/-- one less than a round undoes -/
theorem pw_back {n f r} (h : Pm n f) (hr : pw n f r = idn n) (h0 : 0 < r) : pw n f (r - 1) = inv f := by
  refine inv_uniq h (h.ef.pw _) ?_
  show pw n f (r - 1 + 1) = idn n
  rw [Nat.sub_add_cancel h0, hr]
theorem ap_pw_add {n f x} (h : Ef n f) (hx : x < n) (i j : Nat) : ap (pw n f (i + j)) x = ap (pw n f j) (ap (pw n f i) x) := by
  rw [pw_add h, ap_cmp (by rw [(h.pw i).len]; exact hx)]
/-- a point that comes back after k turns comes back after each multiple -/
theorem ap_pw_dvd {n f x r k} (h : Ef n f) (hx : x < n) (hr : ap (pw n f r) x = x) (hd : r ∣ k) : ap (pw n f k) x = x := by
  obtain ⟨j, rfl⟩ := hd
  induction j with
  | zero => rw [Nat.mul_zero]; exact ap_idn hx
  | succ j ih => rw [Nat.mul_succ, Nat.add_comm, ap_pw_add h hx, hr, ih]
end Eo
/-! M2: words over named deeds, their effects; Free: words of one list that agree somewhere agree everywhere; what makes a machine free. -/
namespace Eo
section
variable {σ : Type} [DecidableEq σ]
/-- the deed of a name; a name that is none does nothing -/
def dl (n : Nat) (ds : List (σ × List Nat)) (x : σ) : List Nat := match ds.lookup x with
  | some f => f
  | none => idn n
def eff (n : Nat) (ds : List (σ × List Nat)) : List σ → List Nat
  | [] => idn n
  | x :: w => cmp (dl n ds x) (eff n ds w)
def AllPm (n : Nat) (ds : List (σ × List Nat)) : Prop := ∀ p ∈ ds, Pm n p.2
theorem lookup_mem : ∀ {ds : List (σ × List Nat)} {x : σ} {f : List Nat}, ds.lookup x = some f → (x, f) ∈ ds
  | [], _, _, h => by simp at h
  | (y, g) :: ds, x, f, h => by
    rw [List.lookup_cons] at h
    split at h
    · rename_i e
      have e' : x = y := by simpa using e
      cases h
      rw [e']
      exact List.mem_cons_self
    · exact List.mem_cons_of_mem _ (lookup_mem h)
theorem dl_pm {n : Nat} {ds : List (σ × List Nat)} (h : AllPm n ds) (x : σ) : Pm n (dl n ds x) := by
  unfold dl
  split
  · rename_i f e
    exact h _ (lookup_mem e)
  · exact Pm.idn n
theorem eff_pm {n : Nat} {ds : List (σ × List Nat)} (h : AllPm n ds) : ∀ w, Pm n (eff n ds w)
  | [] => Pm.idn n
  | x :: w => (dl_pm h x).cmp (eff_pm h w)
theorem eff_append {n : Nat} {ds : List (σ × List Nat)} (h : AllPm n ds) : ∀ u v, eff n ds (u ++ v) = cmp (eff n ds u) (eff n ds v)
  | [], v => (id_cmp (eff_pm h v).ef).symm
  | x :: u, v => by
    show cmp (dl n ds x) (eff n ds (u ++ v)) = cmp (cmp (dl n ds x) (eff n ds u)) (eff n ds v)
    rw [eff_append h u v, cmp_assoc (dl_pm h x).ef (eff_pm h u).ef]
theorem eff_rep {n : Nat} {ds : List (σ × List Nat)} (h : AllPm n ds) (w : List σ) : ∀ k, eff n ds (List.replicate k w).flatten = pw n (eff n ds w) k
  | 0 => rfl
  | k + 1 => by
    rw [List.replicate_succ, List.flatten_cons, eff_append h, eff_rep h w k]
    rfl
theorem eff_single {n : Nat} {ds : List (σ × List Nat)} (h : AllPm n ds) (x : σ) : eff n ds [x] = dl n ds x := cmp_id (dl_pm h x).ef
/-- THE PROPERTY: two words of one list that lead one state alike lead all alike -/
def Free (n : Nat) (ds : List (σ × List Nat)) : Prop := ∀ u v : List σ, u.Perm v → ∀ s, s < n → ap (eff n ds u) s = ap (eff n ds v) s → eff n ds u = eff n ds v

/-! ### what shows it -/
/-- what steps make, from nothing, one behind another -/
inductive Gen (n : Nat) (S : List (List Nat)) : List Nat → Prop
  | id : Gen n S (idn n)
  | step {e s} : Gen n S e → s ∈ S → Gen n S (cmp e s)
theorem Gen.mono {n S S'} (h : ∀ s ∈ S, s ∈ S') : ∀ {e}, Gen n S e → Gen n S' e := by
  intro e g
  induction g with
  | id => exact .id
  | step _ hs ih => exact .step ih (h _ hs)
theorem Gen.pm {n S} (h : ∀ s ∈ S, Pm n s) : ∀ {e}, Gen n S e → Pm n e := by
  intro e g
  induction g with
  | id => exact Pm.idn n
  | step _ hs ih => exact ih.cmp (h _ hs)
theorem Gen.mul {n S} (h : ∀ s ∈ S, Pm n s) {a b : List Nat} (ha : Gen n S a) (hb : Gen n S b) : Gen n S (cmp a b) := by
  induction hb with
  | id => rw [cmp_id (ha.pm h).ef]; exact ha
  | step hb hs ih => rw [← cmp_assoc (ha.pm h).ef (hb.pm h).ef]; exact .step ih hs
theorem Gen.one {n S} (h : ∀ s ∈ S, Pm n s) {s : List Nat} (hs : s ∈ S) : Gen n S s := by
  have := Gen.step (n := n) (S := S) .id hs
  rwa [id_cmp (h s hs).ef] at this
/-- d undone, then e, then d -/
def conj (d e : List Nat) : List Nat := cmp (cmp (inv d) e) d
theorem conj_pm {n d e} (hd : Pm n d) (he : Pm n e) : Pm n (conj d e) := (hd.inv.cmp he).cmp hd
theorem conj_id {n d} (hd : Pm n d) : conj d (idn n) = idn n := by
  unfold conj
  rw [cmp_id hd.inv.ef, inv_cmp hd]
theorem conj_cmp {n d a b} (hd : Pm n d) (ha : Pm n a) (hb : Pm n b) : conj d (cmp a b) = cmp (conj d a) (conj d b) := by
  unfold conj
  have i := hd.inv.ef
  rw [cmp_assoc (i.cmp ha.ef) hd.ef, ← cmp_assoc hd.ef (i.cmp hb.ef), ← cmp_assoc hd.ef i, cmp_inv hd, id_cmp hb.ef, ← cmp_assoc (i.cmp ha.ef) hb.ef, cmp_assoc i ha.ef]
theorem Gen.conj {n S} (h : ∀ s ∈ S, Pm n s) {d : List Nat} (hd : Pm n d) (hS : ∀ s ∈ S, Gen n S (Eo.conj d s)) : ∀ {e}, Gen n S e → Gen n S (Eo.conj d e) := by
  intro e g
  induction g with
  | id => rw [conj_id hd]; exact .id
  | step g hs ih => rw [conj_cmp hd (g.pm h) (h _ hs)]; exact ih.mul h (hS _ hs)
def dd : List (List Nat) → List (List Nat)
  | [] => []
  | a :: l => if a ∈ l then dd l else a :: dd l
theorem dd_mem : ∀ (l : List (List Nat)) e, e ∈ dd l ↔ e ∈ l
  | [], e => Iff.rfl
  | a :: l, e => by
    unfold dd
    split
    · rename_i h
      rw [dd_mem l e, List.mem_cons]
      exact ⟨.inr, fun q => q.elim (fun z => z ▸ h) id⟩
    · rw [List.mem_cons, List.mem_cons, dd_mem l e]
theorem dd_nodup : ∀ l : List (List Nat), (dd l).Nodup
  | [] => List.nodup_nil
  | a :: l => by
    unfold dd
    split
    · exact dd_nodup l
    · rename_i h
      exact List.nodup_cons.mpr ⟨fun q => h ((dd_mem l a).mp q), dd_nodup l⟩
/-- a finite lot that is shut under its own products has its backs -/
theorem Gen.inv {n S} (h : ∀ s ∈ S, Pm n s) {F : List (List Nat)} (hF : ∀ e, Gen n S e ↔ e ∈ F) {e : List Nat} (g : Gen n S e) : Gen n S (Eo.inv e) := by
  -- left products by e map the lot (without repeats) into itself, one to one: the identity is hit
  have key : ∀ F : List (List Nat), (∀ e, Gen n S e ↔ e ∈ F) → F.Nodup → Gen n S (Eo.inv e) := by
    intro F hF nd
    have hm : (F.map (Eo.cmp e)).Nodup := nodup_map nd fun a ha b hb q => cancel_l (g.pm h) (((hF a).mpr ha).pm h).ef (((hF b).mpr hb).pm h).ef q
    have hid := sub_all (m := F) hm (fun x hx => by
      obtain ⟨a, ha, rfl⟩ := List.mem_map.mp hx
      exact (hF _).mp (g.mul h ((hF a).mpr ha))) (by rw [List.length_map]; exact Nat.le_refl _) (idn n) ((hF _).mp .id)
    obtain ⟨a, ha, q⟩ := List.mem_map.mp hid
    rw [← inv_uniq (g.pm h) (((hF a).mpr ha).pm h).ef q]
    exact (hF a).mpr ha
  exact key (dd F) (fun e => by rw [hF e]; exact (dd_mem F e).symm) (dd_nodup F)
/-- the mix of two deeds: both undone, then both done -/
def mix (a b : List Nat) : List Nat := cmp (cmp (cmp (inv a) (inv b)) a) b
theorem mix_pm {n a b} (ha : Pm n a) (hb : Pm n b) : Pm n (mix a b) := ((ha.inv.cmp hb.inv).cmp ha).cmp hb
theorem mix_eq {n a b} (ha : Pm n a) (hb : Pm n b) : cmp (cmp b a) (mix a b) = cmp a b := by
  unfold mix
  have ia := ha.inv
  have ib := hb.inv
  rw [← cmp_assoc (hb.cmp ha).ef ((ia.cmp ib).cmp ha).ef, ← cmp_assoc (hb.cmp ha).ef (ia.cmp ib).ef, ← cmp_assoc (hb.cmp ha).ef ia.ef, cmp_assoc hb.ef ha.ef, cmp_inv ha, cmp_id hb.ef, cmp_inv hb, id_cmp ha.ef]
theorem mix_inv {n a b} (ha : Pm n a) (hb : Pm n b) : mix b a = inv (mix a b) := by
  refine inv_uniq (mix_pm ha hb) (mix_pm hb ha).ef ?_
  refine cancel_l (hb.cmp ha) ((mix_pm ha hb).cmp (mix_pm hb ha)).ef (Ef.idn n) ?_
  rw [← cmp_assoc (hb.cmp ha).ef (mix_pm ha hb).ef, mix_eq ha hb, mix_eq hb ha, cmp_id (hb.cmp ha).ef]
/-- words of one list differ by what the lot makes -/
theorem perm_gen {n : Nat} {ds : List (σ × List Nat)} (hd : AllPm n ds) {S : List (List Nat)} (h : ∀ s ∈ S, Pm n s)
    (hc : ∀ x, ∀ s ∈ S, Gen n S (conj (dl n ds x) s)) (hm : ∀ x y, Gen n S (mix (dl n ds x) (dl n ds y))) :
    ∀ {u v : List σ}, u.Perm v → ∃ m, Gen n S m ∧ eff n ds u = cmp (eff n ds v) m := by
  have hw : ∀ (w : List σ) (m : List Nat), Gen n S m → Gen n S (conj (eff n ds w) m) := by
    intro w
    induction w with
    | nil =>
      intro m g
      have e : conj (idn n) m = m := by
        unfold conj
        have i1 : inv (idn n) = idn n := (inv_uniq (Pm.idn n) (Ef.idn n) (id_cmp (Ef.idn n))).symm
        rw [i1, id_cmp (g.pm h).ef, cmp_id (g.pm h).ef]
      show Gen n S (conj (idn n) m)
      rw [e]
      exact g
    | cons x w ih =>
      intro m g
      have hx := dl_pm hd x
      have hww := eff_pm hd w
      have e : conj (cmp (dl n ds x) (eff n ds w)) m = conj (eff n ds w) (conj (dl n ds x) m) := by
        unfold conj
        have ei : inv (cmp (dl n ds x) (eff n ds w)) = cmp (inv (eff n ds w)) (inv (dl n ds x)) := by
          refine (inv_uniq (hx.cmp hww) (hww.inv.cmp hx.inv).ef ?_).symm
          rw [cmp_assoc hx.ef hww.ef, ← cmp_assoc hww.ef hww.inv.ef, cmp_inv hww, id_cmp hx.inv.ef, cmp_inv hx]
        have gm := g.pm h
        rw [ei, ← cmp_assoc ((hww.inv.cmp hx.inv).cmp gm).ef hx.ef, cmp_assoc hww.inv.ef hx.inv.ef, cmp_assoc hww.inv.ef (hx.inv.cmp gm).ef]
      show Gen n S (conj (cmp (dl n ds x) (eff n ds w)) m)
      rw [e]
      exact ih _ (Gen.conj h hx (hc x) g)
  intro u v p
  induction p with
  | nil => exact ⟨idn n, .id, (cmp_id (Ef.idn n)).symm⟩
  | cons x p ih =>
    obtain ⟨m, g, e⟩ := ih
    refine ⟨m, g, ?_⟩
    show cmp _ _ = cmp (cmp _ _) m
    rw [e, cmp_assoc (dl_pm hd x).ef (eff_pm hd _).ef]
  | swap x y l =>
    -- y x l = x y l m, m = the mix of y and x, led around by l
    have hx := dl_pm hd x
    have hy := dl_pm hd y
    have hl := eff_pm hd l
    have mp := mix_pm hy hx
    refine ⟨conj (eff n ds l) (mix (dl n ds y) (dl n ds x)), hw l _ (hm y x), ?_⟩
    show cmp (dl n ds y) (cmp (dl n ds x) (eff n ds l)) = cmp (cmp (dl n ds x) (cmp (dl n ds y) (eff n ds l))) (conj (eff n ds l) (mix (dl n ds y) (dl n ds x)))
    have e1 : cmp (eff n ds l) (conj (eff n ds l) (mix (dl n ds y) (dl n ds x))) = cmp (mix (dl n ds y) (dl n ds x)) (eff n ds l) := by
      unfold conj
      rw [← cmp_assoc hl.ef (hl.inv.cmp mp).ef, ← cmp_assoc hl.ef hl.inv.ef, cmp_inv hl, id_cmp mp.ef]
    rw [cmp_assoc hx.ef (hy.cmp hl).ef, cmp_assoc hy.ef hl.ef, e1, ← cmp_assoc hy.ef mp.ef, ← cmp_assoc hx.ef (hy.cmp mp).ef, ← cmp_assoc hx.ef hy.ef, mix_eq hy hx, cmp_assoc hy.ef hx.ef]
  | trans _ _ ih1 ih2 =>
    obtain ⟨m1, g1, e1⟩ := ih1
    obtain ⟨m2, g2, e2⟩ := ih2
    refine ⟨cmp m2 m1, g2.mul h g1, ?_⟩
    rw [e1, e2, cmp_assoc (eff_pm hd _).ef (g2.pm h).ef]
/-- the whole: what the search has found makes the machine free -/
theorem free_of {n : Nat} {ds : List (σ × List Nat)} (hd : AllPm n ds) {S F : List (List Nat)} (h : ∀ s ∈ S, Pm n s) (hF : ∀ e, Gen n S e ↔ e ∈ F)
    (hst : ∀ e ∈ F, e ≠ idn n → ∀ s, s < n → ap e s ≠ s) (hc : ∀ p ∈ ds, ∀ s ∈ S, conj p.2 s ∈ F)
    (hm : ∀ (i j : Nat) (a b : σ × List Nat), i < j → ds[i]? = some a → ds[j]? = some b → mix a.2 b.2 ∈ F) : Free n ds := by
  have hidconj : ∀ s ∈ S, Gen n S (conj (idn n) s) := fun s hs => by
    have e : conj (idn n) s = s := by
      unfold conj
      have i1 : inv (idn n) = idn n := (inv_uniq (Pm.idn n) (Ef.idn n) (id_cmp (Ef.idn n))).symm
      rw [i1, id_cmp (h s hs).ef, cmp_id (h s hs).ef]
    rw [e]
    exact Gen.one h hs
  have hc' : ∀ x, ∀ s ∈ S, Gen n S (conj (dl n ds x) s) := fun x s hs => by
    unfold dl
    split
    · rename_i f e
      exact (hF _).mpr (hc (x, f) (lookup_mem e) s hs)
    · exact hidconj s hs
  have mix_self : ∀ a, Pm n a → mix a a = idn n := fun a ha => by
    unfold mix
    rw [cmp_assoc ha.inv.ef ha.inv.ef, inv_cmp ha, cmp_id ha.inv.ef, inv_cmp ha]
  have mix_idl : ∀ a, Pm n a → mix (idn n) a = idn n := fun a ha => by
    unfold mix
    have i1 : inv (idn n) = idn n := (inv_uniq (Pm.idn n) (Ef.idn n) (id_cmp (Ef.idn n))).symm
    rw [i1, id_cmp ha.inv.ef, cmp_id ha.inv.ef, inv_cmp ha]
  have mix_idr : ∀ a, Pm n a → mix a (idn n) = idn n := fun a ha => by
    rw [mix_inv (Pm.idn n) ha, mix_idl a ha]
    exact (inv_uniq (Pm.idn n) (Ef.idn n) (id_cmp (Ef.idn n))).symm
  have hm' : ∀ x y, Gen n S (mix (dl n ds x) (dl n ds y)) := fun x y => by
    unfold dl
    split
    · rename_i f ef
      split
      · rename_i g eg
        have hf := hd _ (lookup_mem ef)
        have hg := hd _ (lookup_mem eg)
        obtain ⟨i, hi, qi⟩ := List.getElem_of_mem (lookup_mem ef)
        obtain ⟨j, hj, qj⟩ := List.getElem_of_mem (lookup_mem eg)
        rcases Nat.lt_trichotomy i j with hl | hl | hl
        · exact (hF _).mpr (hm i j _ _ hl (by rw [List.getElem?_eq_getElem hi, qi]) (by rw [List.getElem?_eq_getElem hj, qj]))
        · subst hl
          rw [qi] at qj
          cases qj
          rw [mix_self f hf]
          exact .id
        · have := hm j i _ _ hl (by rw [List.getElem?_eq_getElem hj, qj]) (by rw [List.getElem?_eq_getElem hi, qi])
          rw [mix_inv hg hf]
          exact Gen.inv h hF ((hF _).mpr this)
      · rename_i eg
        rw [mix_idr _ (hd _ (lookup_mem ef))]
        exact .id
    · split
      · rename_i g eg
        rw [mix_idl _ (hd _ (lookup_mem eg))]
        exact .id
      · rw [mix_idl _ (Pm.idn n)]
        exact .id
  intro u v p s hs e
  obtain ⟨m, g, q⟩ := perm_gen hd h hc' hm' p
  have hv := eff_pm hd v
  rw [q, ap_cmp (by rw [hv.len]; exact hs)] at e
  by_cases hi : m = idn n
  · rw [q, hi, cmp_id hv.ef]
  · exact absurd e (hst m ((hF m).mp g) hi _ (hv.ap_lt hs))
end
end Eo
/-! M3: rows (with powers), their words; the machines that are made of free ones. -/
namespace Eo
/-- a row, part by part: a name, or a row done so many times -/
inductive Row (σ : Type) where
  | nil
  | nm (x : σ) (r : Row σ)
  | pow (i : Row σ) (k : Nat) (r : Row σ)
namespace Row
variable {σ : Type}
def app : Row σ → Row σ → Row σ
  | nil, s => s
  | nm x r, s => nm x (r.app s)
  | pow i k r, s => pow i k (r.app s)
def flat : Row σ → List σ
  | nil => []
  | nm x r => x :: r.flat
  | pow i k r => (List.replicate k i.flat).flatten ++ r.flat
def depth : Row σ → Nat
  | nil => 0
  | nm _ r => r.depth
  | pow i _ r => max (i.depth + 1) r.depth
/-- every power is below a bound -/
def Below (B : Nat) : Row σ → Prop
  | nil => True
  | nm _ r => r.Below B
  | pow i k r => k < B ∧ i.Below B ∧ r.Below B
/-- every name, also in what is done no times, is one of some -/
def Names (N : List σ) : Row σ → Prop
  | nil => True
  | nm x r => x ∈ N ∧ r.Names N
  | pow i _ r => i.Names N ∧ r.Names N
theorem flat_app : ∀ r s : Row σ, (r.app s).flat = r.flat ++ s.flat
  | nil, _ => rfl
  | nm x r, s => by show x :: (r.app s).flat = x :: r.flat ++ s.flat; rw [flat_app r s]; rfl
  | pow i k r, s => by show _ ++ (r.app s).flat = (_ ++ r.flat) ++ s.flat; rw [flat_app r s, List.append_assoc]
theorem depth_app : ∀ r s : Row σ, (r.app s).depth = max r.depth s.depth
  | nil, s => by show s.depth = max 0 s.depth; omega
  | nm x r, s => depth_app r s
  | pow i k r, s => by show max _ (r.app s).depth = max (max _ r.depth) s.depth; rw [depth_app r s]; omega
theorem below_app {B : Nat} : ∀ {r s : Row σ}, r.Below B → s.Below B → (r.app s).Below B
  | nil, _, _, h => h
  | nm _ r, s, h, q => below_app (r := r) h q
  | pow _ _ r, s, h, q => ⟨h.1, h.2.1, below_app (r := r) h.2.2 q⟩
theorem below_mono {B C : Nat} (hl : B ≤ C) : ∀ {r : Row σ}, r.Below B → r.Below C
  | nil, _ => trivial
  | nm _ r, h => below_mono hl (r := r) h
  | pow i _ r, h => ⟨Nat.lt_of_lt_of_le h.1 hl, below_mono hl (r := i) h.2.1, below_mono hl (r := r) h.2.2⟩
theorem names_app {N : List σ} : ∀ {r s : Row σ}, r.Names N → s.Names N → (r.app s).Names N
  | nil, _, _, h => h
  | nm _ r, s, h, q => ⟨h.1, names_app (r := r) h.2 q⟩
  | pow _ _ r, s, h, q => ⟨h.1, names_app (r := r) h.2 q⟩
theorem names_flat {N : List σ} : ∀ {r : Row σ}, r.Names N → ∀ x ∈ r.flat, x ∈ N
  | nil, _, x, hx => by cases hx
  | nm y r, h, x, hx => by
    rcases List.mem_cons.mp hx with rfl | hx
    · exact h.1
    · exact names_flat (r := r) h.2 x hx
  | pow i k r, h, x, hx => by
    rcases List.mem_append.mp hx with hx | hx
    · obtain ⟨l, hl, hx⟩ := List.mem_flatten.mp hx
      rw [List.eq_of_mem_replicate hl] at hx
      exact names_flat (r := i) h.1 x hx
    · exact names_flat (r := r) h.2 x hx
variable [DecidableEq σ]
/-- how often a name is done -/
def cnt (x : σ) : Row σ → Nat
  | nil => 0
  | nm y r => (if y = x then 1 else 0) + r.cnt x
  | pow i k r => k * i.cnt x + r.cnt x
theorem cnt_flat (x : σ) : ∀ r : Row σ, r.cnt x = r.flat.count x
  | nil => rfl
  | nm y r => by
    show (if y = x then 1 else 0) + r.cnt x = (y :: r.flat).count x
    rw [List.count_cons, cnt_flat x r, Nat.add_comm]
    congr 1
    by_cases e : y = x <;> simp [e]
  | pow i k r => by
    show k * i.cnt x + r.cnt x = ((List.replicate k i.flat).flatten ++ r.flat).count x
    rw [List.count_append, cnt_flat x i, cnt_flat x r]
    congr 1
    induction k with
    | zero => simp
    | succ k ih => rw [List.replicate_succ, List.flatten_cons, List.count_append, ← ih, Nat.succ_mul, Nat.add_comm]
theorem cnt_app (x : σ) (r s : Row σ) : (r.app s).cnt x = r.cnt x + s.cnt x := by rw [cnt_flat, cnt_flat, cnt_flat, flat_app, List.count_append]
end Row
section
variable {σ : Type} [DecidableEq σ]
theorem eff_app {n : Nat} {ds : List (σ × List Nat)} (h : AllPm n ds) (r s : Row σ) : eff n ds (r.app s).flat = cmp (eff n ds r.flat) (eff n ds s.flat) := by rw [Row.flat_app, eff_append h]
theorem eff_pow {n : Nat} {ds : List (σ × List Nat)} (h : AllPm n ds) (i : Row σ) (k : Nat) (r : Row σ) : eff n ds (Row.pow i k r).flat = cmp (pw n (eff n ds i.flat) k) (eff n ds r.flat) := by
  show eff n ds (_ ++ _) = _
  rw [eff_append h, eff_rep h]
/-- rows of one list -/
theorem perm_of_cnt {r s : Row σ} (h : ∀ x, r.cnt x = s.cnt x) : r.flat.Perm s.flat := List.perm_iff_count.mpr fun x => by rw [← Row.cnt_flat, ← Row.cnt_flat, h x]
/-- so a free machine has no two rows that part states -/
theorem Free.no {n : Nat} {ds : List (σ × List Nat)} (h : Free n ds) {r s : Row σ} (hc : ∀ x, r.cnt x = s.cnt x) {a b : Nat} (ha : a < n) (e : ap (eff n ds r.flat) a = ap (eff n ds s.flat) a)
    (ne : ap (eff n ds r.flat) b ≠ ap (eff n ds s.flat) b) : False := ne (by rw [h _ _ (perm_of_cnt hc) a ha e])

/-! ### fewer deeds -/
theorem lookup_filter (p : σ → Bool) : ∀ (ds : List (σ × List Nat)) (x : σ), (ds.filter fun q => p q.1).lookup x = if p x then ds.lookup x else none
  | [], x => by simp
  | (y, f) :: ds, x => by
    rw [List.filter_cons]
    by_cases hy : p y = true
    · rw [if_pos hy, List.lookup_cons, List.lookup_cons, lookup_filter p ds x]
      by_cases e : x = y
      · subst e
        simp [hy]
      · have : (x == y) = false := by simp [e]
        rw [this]
    · rw [if_neg hy, lookup_filter p ds x, List.lookup_cons]
      by_cases e : x = y
      · subst e
        rw [if_neg hy, if_neg hy]
      · have : (x == y) = false := by simp [e]
        rw [this]
theorem Free.fewer {n : Nat} {ds : List (σ × List Nat)} (hd : AllPm n ds) (h : Free n ds) (p : σ → Bool) : Free n (ds.filter fun q => p q.1) := by
  have hd' : AllPm n (ds.filter fun q => p q.1) := fun q hq => hd q (List.mem_filter.mp hq).1
  have key : ∀ w, eff n (ds.filter fun q => p q.1) w = eff n ds (w.filter p) := by
    intro w
    induction w with
    | nil => rfl
    | cons x w ih =>
      show cmp (dl n _ x) (eff n _ w) = _
      rw [ih, List.filter_cons]
      unfold dl
      rw [lookup_filter]
      by_cases hx : p x = true
      · rw [if_pos hx, if_pos hx]
        rfl
      · rw [if_neg hx, if_neg hx]
        exact id_cmp (eff_pm hd _).ef
  intro u v q s hs e
  rw [key, key] at e
  rw [key, key]
  exact h _ _ (q.filter p) s hs e

/-! ### on a shut set -/
/-- the deeds on the states T (numbered by their places) -/
def cutE (T f : List Nat) : List Nat := T.map fun t => T.idxOf (ap f t)
theorem ap_cutE {T f : List Nat} {i : Nat} (hi : i < T.length) : ap (cutE T f) i = T.idxOf (ap f (T[i])) := by
  have e : (cutE T f)[i]? = some (T.idxOf (ap f (T[i]))) := by
    unfold cutE
    rw [List.getElem?_map, List.getElem?_eq_getElem hi]
    rfl
  have e2 := ap_get (f := cutE T f) (x := i) (by unfold cutE; rw [List.length_map]; exact hi)
  rw [e] at e2
  exact (Option.some.inj e2).symm
theorem cutE_pm {n : Nat} {T f : List Nat} (hf : Pm n f) (hT : ∀ t ∈ T, t < n) (nd : T.Nodup) (hs : ∀ t ∈ T, ap f t ∈ T) : Pm T.length (cutE T f) := by
  refine Pm.of_inj ⟨by unfold cutE; rw [List.length_map], fun x hx => ?_⟩ fun x y hx hy e => ?_
  · obtain ⟨t, ht, rfl⟩ := List.mem_map.mp hx
    exact List.idxOf_lt_length_of_mem (hs t ht)
  · rw [ap_cutE hx, ap_cutE hy] at e
    have hx' := hs _ (List.getElem_mem hx)
    have hy' := hs _ (List.getElem_mem hy)
    have e1 : ap f T[x] = ap f T[y] := by
      have q1 := List.getElem_idxOf (List.idxOf_lt_length_of_mem hx')
      have q2 := List.getElem_idxOf (List.idxOf_lt_length_of_mem hy')
      rw [← q1, ← q2]
      congr 1
    have e2 := hf.inj (hT _ (List.getElem_mem hx)) (hT _ (List.getElem_mem hy)) e1
    exact (List.getElem_inj nd).mp e2
theorem Free.shut {n : Nat} {ds : List (σ × List Nat)} (hd : AllPm n ds) (h : Free n ds) {T : List Nat} (hT : ∀ t ∈ T, t < n) (nd : T.Nodup) (hs : ∀ p ∈ ds, ∀ t ∈ T, ap p.2 t ∈ T) :
    Free T.length (ds.map fun p => (p.1, cutE T p.2)) := by
  have hlook : ∀ (ds : List (σ × List Nat)) x, (ds.map fun p => (p.1, cutE T p.2)).lookup x = (ds.lookup x).map (cutE T) := by
    intro ds x
    induction ds with
    | nil => rfl
    | cons q ds ih =>
      rw [List.map_cons, List.lookup_cons, List.lookup_cons, ih]
      split <;> rfl
  have hdx : ∀ x, ∀ t ∈ T, ap (dl n ds x) t ∈ T := fun x t ht => by
    unfold dl
    split
    · rename_i f e
      exact hs _ (lookup_mem e) t ht
    · rw [ap_idn (hT t ht)]
      exact ht
  have hdl : ∀ x i, i < T.length → ap (dl T.length (ds.map fun p => (p.1, cutE T p.2)) x) i = T.idxOf (ap (dl n ds x) (T.getD i 0)) := fun x i hi => by
    have eT : T.getD i 0 = T[i] := by rw [List.getD_eq_getElem?_getD, List.getElem?_eq_getElem hi]; rfl
    rw [eT]
    unfold dl
    rw [hlook]
    cases hl : ds.lookup x with
    | some f => exact ap_cutE hi
    | none =>
      show ap (idn T.length) i = T.idxOf (ap (idn n) T[i])
      rw [ap_idn hi, ap_idn (hT _ (List.getElem_mem hi)), nd.idxOf_getElem]
  have hd' : AllPm T.length (ds.map fun p => (p.1, cutE T p.2)) := fun q hq => by
    obtain ⟨p, hp, rfl⟩ := List.mem_map.mp hq
    exact cutE_pm (hd p hp) hT nd (hs p hp)
  have key : ∀ w i, i < T.length → T.getD (ap (eff T.length (ds.map fun p => (p.1, cutE T p.2)) w) i) 0 = ap (eff n ds w) (T.getD i 0) := by
    intro w
    induction w with
    | nil =>
      intro i hi
      show T.getD (ap (idn T.length) i) 0 = ap (idn n) _
      have eT : T.getD i 0 = T[i] := by rw [List.getD_eq_getElem?_getD, List.getElem?_eq_getElem hi]; rfl
      rw [ap_idn hi, eT, ap_idn (hT _ (List.getElem_mem hi))]
    | cons x w ih =>
      intro i hi
      have eT : T.getD i 0 = T[i] := by rw [List.getD_eq_getElem?_getD, List.getElem?_eq_getElem hi]; rfl
      have hx := dl_pm hd' x
      have hx2 := dl_pm hd x
      show T.getD (ap (cmp (dl _ _ x) (eff _ _ w)) i) 0 = ap (cmp (dl n ds x) (eff n ds w)) (T.getD i 0)
      rw [ap_cmp (by rw [hx.len]; exact hi), ih _ (hx.ap_lt hi), ap_cmp (by rw [hx2.len, eT]; exact hT _ (List.getElem_mem hi)), hdl x i hi]
      have hm : ap (dl n ds x) (T.getD i 0) ∈ T := by rw [eT]; exact hdx x _ (List.getElem_mem hi)
      have q := List.getElem_idxOf (List.idxOf_lt_length_of_mem hm)
      congr 1
      rw [List.getD_eq_getElem?_getD, List.getElem?_eq_getElem (List.idxOf_lt_length_of_mem hm), q]
      rfl
  intro u v p s hsl e
  have eu := key u s hsl
  have ev := key v s hsl
  rw [e, ev] at eu
  have eT : T.getD s 0 = T[s] := by rw [List.getD_eq_getElem?_getD, List.getElem?_eq_getElem hsl]; rfl
  have all := h u v p (T.getD s 0) (by rw [eT]; exact hT _ (List.getElem_mem hsl)) eu.symm
  refine ext_ap (eff_pm hd' u).len (eff_pm hd' v).len fun i hi => ?_
  have k1 := key u i hi
  have k2 := key v i hi
  rw [all, ← k2] at k1
  have a1 := (eff_pm hd' u).ap_lt hi
  have a2 := (eff_pm hd' v).ap_lt hi
  rw [List.getD_eq_getElem?_getD, List.getElem?_eq_getElem a1, List.getD_eq_getElem?_getD, List.getElem?_eq_getElem a2] at k1
  exact (List.getElem_inj nd).mp k1

/-! ### side by side -/
/-- f and g on pairs (x, y), numbered x * m + y -/
def side (f g : List Nat) : List Nat := (f.map fun x => g.map fun y => x * g.length + y).flatten
theorem side_len (f g : List Nat) : (side f g).length = f.length * g.length := by
  have : ∀ (l : List Nat) (m : Nat), (l.map fun x => g.map fun y => x * m + y).flatten.length = l.length * g.length := by
    intro l m
    induction l with
    | nil => simp
    | cons a l ih => rw [List.map_cons, List.flatten_cons, List.length_append, List.length_map, ih, List.length_cons, Nat.succ_mul, Nat.add_comm]
  exact this f g.length
theorem ap_side {f g : List Nat} {x y : Nat} (hx : x < f.length) (hy : y < g.length) : ap (side f g) (x * g.length + y) = ap f x * g.length + ap g y := by
  have : ∀ (l : List Nat) (m x : Nat), x < l.length → (l.map fun x => g.map fun y => x * m + y).flatten[x * g.length + y]? = some (ap l x * m + ap g y) := by
    intro l m
    induction l with
    | nil => intro x h; cases h
    | cons a l ih =>
      intro x h
      rw [List.map_cons, List.flatten_cons]
      cases x with
      | zero =>
        rw [Nat.zero_mul, Nat.zero_add, List.getElem?_append_left (by rw [List.length_map]; exact hy), List.getElem?_map, ap_get hy]
        rfl
      | succ x =>
        rw [List.getElem?_append_right (by rw [List.length_map, Nat.succ_mul]; omega), List.length_map]
        have e : (x + 1) * g.length + y - g.length = x * g.length + y := by rw [Nat.succ_mul]; omega
        rw [e, ih x (by rw [List.length_cons] at h; omega)]
        rfl
  have h1 := this f g.length x hx
  have hl : x * g.length + y < (side f g).length := by
    rw [side_len]
    have : (x + 1) * g.length ≤ f.length * g.length := Nat.mul_le_mul_right _ hx
    rw [Nat.succ_mul] at this
    omega
  have h2 := ap_get hl
  unfold side at h2 ⊢
  rw [h1] at h2
  exact (Option.some.inj h2).symm
theorem split_num {n m s : Nat} (h : s < n * m) : ∃ x y, x < n ∧ y < m ∧ s = x * m + y := by
  have hm : 0 < m := by
    rcases Nat.eq_zero_or_pos m with e | e
    · rw [e] at h; omega
    · exact e
  refine ⟨s / m, s % m, (Nat.div_lt_iff_lt_mul hm).mpr h, Nat.mod_lt _ hm, ?_⟩
  rw [Nat.mul_comm]
  exact (Nat.div_add_mod s m).symm
theorem join_num {m a b x y : Nat} (hb : b < m) (hy : y < m) (e : a * m + b = x * m + y) : a = x ∧ b = y := by
  have h1 : (a * m + b) / m = a := by rw [Nat.mul_comm, Nat.mul_add_div (by omega), Nat.div_eq_of_lt hb, Nat.add_zero]
  have h2 : (x * m + y) / m = x := by rw [Nat.mul_comm, Nat.mul_add_div (by omega), Nat.div_eq_of_lt hy, Nat.add_zero]
  have h3 : a = x := by rw [← h1, e, h2]
  subst h3
  exact ⟨rfl, by omega⟩
theorem num_lt {n m x y : Nat} (hx : x < n) (hy : y < m) : x * m + y < n * m := by
  have : (x + 1) * m ≤ n * m := Nat.mul_le_mul_right _ hx
  rw [Nat.succ_mul] at this
  omega
theorem side_pm {n m : Nat} {f g : List Nat} (hf : Pm n f) (hg : Pm m g) : Pm (n * m) (side f g) := by
  have hap : ∀ x y, x < n → y < m → ap (side f g) (x * m + y) = ap f x * m + ap g y := fun x y hx hy => by
    have := ap_side (f := f) (g := g) (x := x) (y := y) (by rw [hf.len]; exact hx) (by rw [hg.len]; exact hy)
    rw [hg.len] at this
    exact this
  have hl : (side f g).length = n * m := by rw [side_len, hf.len, hg.len]
  refine Pm.of_inj ⟨hl, fun z hz => ?_⟩ fun s t hs ht e => ?_
  · obtain ⟨i, hi, rfl⟩ := List.getElem_of_mem hz
    have hi' : i < n * m := by rw [← hl]; exact hi
    obtain ⟨x, y, hx, hy, rfl⟩ := split_num hi'
    have q := ap_get hi
    rw [List.getElem?_eq_getElem hi] at q
    rw [Option.some.inj q, hap x y hx hy]
    exact num_lt (hf.ap_lt hx) (hg.ap_lt hy)
  · obtain ⟨x, y, hx, hy, rfl⟩ := split_num hs
    obtain ⟨a, b, ha, hb, rfl⟩ := split_num ht
    rw [hap x y hx hy, hap a b ha hb] at e
    obtain ⟨e1, e2⟩ := join_num (hg.ap_lt hy) (hg.ap_lt hb) e
    rw [hf.inj hx ha e1, hg.inj hy hb e2]
/-- side by side: each name does what it does on both sides -/
theorem Free.side {n m : Nat} {ds es cs : List (σ × List Nat)} (hd : AllPm n ds) (he : AllPm m es) (hc : AllPm (n * m) cs) (h1 : Free n ds) (h2 : Free m es)
    (hdl : ∀ x, dl (n * m) cs x = Eo.side (dl n ds x) (dl m es x)) : Free (n * m) cs := by
  have key : ∀ w x y, x < n → y < m → ap (eff (n * m) cs w) (x * m + y) = ap (eff n ds w) x * m + ap (eff m es w) y := by
    intro w
    induction w with
    | nil =>
      intro x y hx hy
      show ap (idn (n * m)) _ = ap (idn n) x * m + ap (idn m) y
      rw [ap_idn (num_lt hx hy), ap_idn hx, ap_idn hy]
    | cons z w ih =>
      intro x y hx hy
      show ap (cmp (dl _ cs z) (eff _ cs w)) _ = ap (cmp (dl n ds z) (eff n ds w)) x * m + ap (cmp (dl m es z) (eff m es w)) y
      have p1 := dl_pm hd z
      have p2 := dl_pm he z
      have p3 := dl_pm hc z
      rw [ap_cmp (by rw [p3.len]; exact num_lt hx hy), ap_cmp (by rw [p1.len]; exact hx), ap_cmp (by rw [p2.len]; exact hy), hdl]
      have := ap_side (f := dl n ds z) (g := dl m es z) (x := x) (y := y) (by rw [p1.len]; exact hx) (by rw [p2.len]; exact hy)
      rw [p2.len] at this
      rw [this, ih _ _ (p1.ap_lt hx) (p2.ap_lt hy)]
  intro u v p s hs e
  obtain ⟨x, y, hx, hy, rfl⟩ := split_num hs
  rw [key u x y hx hy, key v x y hx hy] at e
  obtain ⟨e1, e2⟩ := join_num ((eff_pm he u).ap_lt hy) ((eff_pm he v).ap_lt hy) e
  have a1 := h1 u v p x hx e1
  have a2 := h2 u v p y hy e2
  refine ext_ap (eff_pm hc u).len (eff_pm hc v).len fun i hi => ?_
  obtain ⟨a, b, ha, hb, rfl⟩ := split_num hi
  rw [key u a b ha hb, key v a b ha hb, a1, a2]

/-! ### three states -/
def six : List (List Nat) := [[0, 1, 2], [1, 2, 0], [2, 0, 1], [0, 2, 1], [2, 1, 0], [1, 0, 2]]
def even3 (f : List Nat) : Bool := f == [0, 1, 2] || f == [1, 2, 0] || f == [2, 0, 1]
theorem pm3 {f : List Nat} (h : Pm 3 f) : f ∈ six := by
  obtain ⟨hl, hlt, nd⟩ := h
  match f, hl with
  | [a, b, c], _ =>
    have ha := hlt a (by simp)
    have hb := hlt b (by simp)
    have hc := hlt c (by simp)
    have : ∀ a : Fin 3, ∀ b : Fin 3, ∀ c : Fin 3, [a.1, b.1, c.1].Nodup → [a.1, b.1, c.1] ∈ six := by decide
    exact this ⟨a, ha⟩ ⟨b, hb⟩ ⟨c, hc⟩ nd
theorem even3_cmp {f g : List Nat} (hf : Pm 3 f) (hg : Pm 3 g) : even3 (cmp f g) = (even3 f == even3 g) := by
  have : ∀ f ∈ six, ∀ g ∈ six, even3 (cmp f g) = (even3 f == even3 g) := by decide
  exact this f (pm3 hf) g (pm3 hg)
theorem agree3 {f g : List Nat} (hf : Pm 3 f) (hg : Pm 3 g) {s : Nat} (hs : s < 3) (e : ap f s = ap g s) (ee : even3 f = even3 g) : f = g := by
  have : ∀ f ∈ six, ∀ g ∈ six, ∀ s, s < 3 → ap f s = ap g s → even3 f = even3 g → f = g := by decide
  exact this f (pm3 hf) g (pm3 hg) s hs e ee
theorem free3 {ds : List (σ × List Nat)} (hd : AllPm 3 ds) : Free 3 ds := by
  have key : ∀ u v : List σ, u.Perm v → even3 (eff 3 ds u) = even3 (eff 3 ds v) := by
    intro u v p
    induction p with
    | nil => rfl
    | cons x p ih => show even3 (cmp _ _) = even3 (cmp _ _); rw [even3_cmp (dl_pm hd x) (eff_pm hd _), even3_cmp (dl_pm hd x) (eff_pm hd _), ih]
    | swap x y l =>
      show even3 (cmp _ (cmp _ _)) = even3 (cmp _ (cmp _ _))
      rw [even3_cmp (dl_pm hd y) ((dl_pm hd x).cmp (eff_pm hd l)), even3_cmp (dl_pm hd x) (eff_pm hd l), even3_cmp (dl_pm hd x) ((dl_pm hd y).cmp (eff_pm hd l)), even3_cmp (dl_pm hd y) (eff_pm hd l)]
      cases even3 (dl 3 ds x) <;> cases even3 (dl 3 ds y) <;> cases even3 (eff 3 ds l) <;> rfl
    | trans _ _ ih1 ih2 => rw [ih1, ih2]
  exact fun u v p s hs e => agree3 (eff_pm hd u) (eff_pm hd v) hs e (key u v p)
end
end Eo
/-! the defs of the text by their places, and what the top has left -/
namespace Eo
open PySem L2
def topS (i : Nat) : Stmt := PySem.Challenge.pw_eitheronce_k70_whole_orders_of_one_list.main.body.getD i (.Pass ⟨0, 0, 0, 0⟩)

abbrev s_is_integer : Stmt := topS 15
abbrev N_is_integer : List Str := ["value"]
theorem sc_is_integer : FnScope N_is_integer ["value"] (defScope s_is_integer) := ⟨rfl, rfl, rfl, by decide +kernel, rfl, by decide +kernel, by decide +kernel⟩
abbrev s_is_below : Stmt := topS 16
abbrev N_is_below : List Str := ["value", "bound"]
theorem sc_is_below : FnScope N_is_below ["value", "bound"] (defScope s_is_below) := ⟨rfl, rfl, rfl, by decide +kernel, rfl, by decide +kernel, by decide +kernel⟩
abbrev s_is_text : Stmt := topS 17
abbrev N_is_text : List Str := ["value"]
theorem sc_is_text : FnScope N_is_text ["value"] (defScope s_is_text) := ⟨rfl, rfl, rfl, by decide +kernel, rfl, by decide +kernel, by decide +kernel⟩
abbrev s_is_sequence : Stmt := topS 18
abbrev N_is_sequence : List Str := ["value"]
theorem sc_is_sequence : FnScope N_is_sequence ["value"] (defScope s_is_sequence) := ⟨rfl, rfl, rfl, by decide +kernel, rfl, by decide +kernel, by decide +kernel⟩
abbrev s_is_name : Stmt := topS 19
abbrev N_is_name : List Str := ["value", "sign"]
theorem sc_is_name : FnScope N_is_name ["value"] (defScope s_is_name) := ⟨rfl, rfl, rfl, by decide +kernel, rfl, by decide +kernel, by decide +kernel⟩
abbrev s_common_divisor : Stmt := topS 21
abbrev N_common_divisor : List Str := ["one", "other"]
theorem sc_common_divisor : FnScope N_common_divisor ["one", "other"] (defScope s_common_divisor) := ⟨rfl, rfl, rfl, by decide +kernel, rfl, by decide +kernel, by decide +kernel⟩
abbrev s_common_multiple : Stmt := topS 22
abbrev N_common_multiple : List Str := ["one", "other"]
theorem sc_common_multiple : FnScope N_common_multiple ["one", "other"] (defScope s_common_multiple) := ⟨rfl, rfl, rfl, by decide +kernel, rfl, by decide +kernel, by decide +kernel⟩
abbrev s_row_depth : Stmt := topS 25
abbrev N_row_depth : List Str := ["row", "part"]
theorem sc_row_depth : FnScope N_row_depth ["row"] (defScope s_row_depth) := ⟨rfl, rfl, rfl, by decide +kernel, rfl, by decide +kernel, by decide +kernel⟩
abbrev s_first_stranger : Stmt := topS 26
abbrev N_first_stranger : List Str := ["row", "names", "part", "found"]
theorem sc_first_stranger : FnScope N_first_stranger ["row", "names"] (defScope s_first_stranger) := ⟨rfl, rfl, rfl, by decide +kernel, rfl, by decide +kernel, by decide +kernel⟩
abbrev s_need_names : Stmt := topS 27
abbrev N_need_names : List Str := ["row", "names", "stranger"]
theorem sc_need_names : FnScope N_need_names ["row", "names"] (defScope s_need_names) := ⟨rfl, rfl, rfl, by decide +kernel, rfl, by decide +kernel, by decide +kernel⟩
abbrev s_name_counts : Stmt := topS 28
abbrev N_name_counts : List Str := ["row", "names", "found", "part", "inner", "_", "many", "more"]
theorem sc_name_counts : FnScope N_name_counts ["row", "names"] (defScope s_name_counts) := ⟨rfl, rfl, rfl, by decide +kernel, rfl, by decide +kernel, by decide +kernel⟩
abbrev s_row_counts : Stmt := topS 29
abbrev N_row_counts : List Str := ["row", "names"]
theorem sc_row_counts : FnScope N_row_counts ["row", "names"] (defScope s_row_counts) := ⟨rfl, rfl, rfl, by decide +kernel, rfl, by decide +kernel, by decide +kernel⟩
abbrev s_is_deed : Stmt := topS 31
abbrev N_is_deed : List Str := ["value", "earlier", "name", "images", "image", "deed"]
theorem sc_is_deed : FnScope N_is_deed ["value", "earlier"] (defScope s_is_deed) := ⟨rfl, rfl, rfl, by decide +kernel, rfl, by decide +kernel, by decide +kernel⟩
abbrev s_Machine_init : Stmt := inClass (topS 32) 0
abbrev N_Machine_init : List Str := ["self", "deeds", "found", "at", "deed"]
theorem sc_Machine_init : FnScope N_Machine_init ["self", "deeds"] (defScope s_Machine_init) := ⟨rfl, rfl, rfl, by decide +kernel, rfl, by decide +kernel, by decide +kernel⟩
abbrev s_effect_then : Stmt := topS 33
abbrev N_effect_then : List Str := ["one", "other", "state"]
theorem sc_effect_then : FnScope N_effect_then ["one", "other"] (defScope s_effect_then) := ⟨rfl, rfl, rfl, by decide +kernel, rfl, by decide +kernel, by decide +kernel⟩
abbrev s_power_by : Stmt := topS 34
abbrev N_power_by : List Str := ["thing", "times", "nothing", "then", "found"]
theorem sc_power_by : FnScope N_power_by ["thing", "times", "nothing", "then"] (defScope s_power_by) := ⟨rfl, rfl, rfl, by decide +kernel, rfl, by decide +kernel, by decide +kernel⟩
abbrev s_made_by : Stmt := topS 35
abbrev N_made_by : List Str := ["row", "deeds", "nothing", "then", "found", "part", "inner"]
theorem sc_made_by : FnScope N_made_by ["row", "deeds", "nothing", "then"] (defScope s_made_by) := ⟨rfl, rfl, rfl, by decide +kernel, rfl, by decide +kernel, by decide +kernel⟩
abbrev s_row_effect : Stmt := topS 36
abbrev N_row_effect : List Str := ["machine", "row"]
theorem sc_row_effect : FnScope N_row_effect ["machine", "row"] (defScope s_row_effect) := ⟨rfl, rfl, rfl, by decide +kernel, rfl, by decide +kernel, by decide +kernel⟩
abbrev s_fewer_deeds : Stmt := topS 37
abbrev N_fewer_deeds : List Str := ["machine", "names", "name", "deed"]
theorem sc_fewer_deeds : FnScope N_fewer_deeds ["machine", "names"] (defScope s_fewer_deeds) := ⟨rfl, rfl, rfl, by decide +kernel, rfl, by decide +kernel, by decide +kernel⟩
abbrev s_side_machine : Stmt := topS 38
abbrev N_side_machine : List Str := ["one", "other", "names", "name", "first", "second", "deeds", "lefts", "rights", "left", "right"]
theorem sc_side_machine : FnScope N_side_machine ["one", "other"] (defScope s_side_machine) := ⟨rfl, rfl, rfl, by decide +kernel, rfl, by decide +kernel, by decide +kernel⟩
abbrev s_undone_effect : Stmt := topS 40
abbrev N_undone_effect : List Str := ["effect", "back", "state", "led"]
theorem sc_undone_effect : FnScope N_undone_effect ["effect"] (defScope s_undone_effect) := ⟨rfl, rfl, rfl, by decide +kernel, rfl, by decide +kernel, by decide +kernel⟩
abbrev s_parted_state : Stmt := topS 41
abbrev N_parted_state : List Str := ["one", "other", "state"]
theorem sc_parted_state : FnScope N_parted_state ["one", "other"] (defScope s_parted_state) := ⟨rfl, rfl, rfl, by decide +kernel, rfl, by decide +kernel, by decide +kernel⟩
abbrev s_turn_rings : Stmt := topS 43
abbrev N_turn_rings : List Str := ["turn", "met", "rings", "first", "ring", "state"]
theorem sc_turn_rings : FnScope N_turn_rings ["turn"] (defScope s_turn_rings) := ⟨rfl, rfl, rfl, by decide +kernel, rfl, by decide +kernel, by decide +kernel⟩
abbrev s_turn_round : Stmt := topS 44
abbrev N_turn_round : List Str := ["turn", "found", "ring"]
theorem sc_turn_round : FnScope N_turn_round ["turn"] (defScope s_turn_round) := ⟨rfl, rfl, rfl, by decide +kernel, rfl, by decide +kernel, by decide +kernel⟩
abbrev s_turn_fault : Stmt := topS 45
abbrev N_turn_fault : List Str := ["machine", "at", "name", "images"]
theorem sc_turn_fault : FnScope N_turn_fault ["machine"] (defScope s_turn_fault) := ⟨rfl, rfl, rfl, by decide +kernel, rfl, by decide +kernel, by decide +kernel⟩
abbrev s_need_permuting : Stmt := topS 46
abbrev N_need_permuting : List Str := ["machine", "fault"]
theorem sc_need_permuting : FnScope N_need_permuting ["machine"] (defScope s_need_permuting) := ⟨rfl, rfl, rfl, by decide +kernel, rfl, by decide +kernel, by decide +kernel⟩
abbrev s_backward_parts : Stmt := topS 47
abbrev N_backward_parts : List Str := ["row", "rounds", "found", "part"]
theorem sc_backward_parts : FnScope N_backward_parts ["row", "rounds"] (defScope s_backward_parts) := ⟨rfl, rfl, rfl, by decide +kernel, rfl, by decide +kernel, by decide +kernel⟩
abbrev s_named_rounds : Stmt := topS 48
abbrev N_named_rounds : List Str := ["machine", "name", "images"]
theorem sc_named_rounds : FnScope N_named_rounds ["machine"] (defScope s_named_rounds) := ⟨rfl, rfl, rfl, by decide +kernel, rfl, by decide +kernel, by decide +kernel⟩
abbrev s_back_row : Stmt := topS 49
abbrev N_back_row : List Str := ["machine", "row"]
theorem sc_back_row : FnScope N_back_row ["machine", "row"] (defScope s_back_row) := ⟨rfl, rfl, rfl, by decide +kernel, rfl, by decide +kernel, by decide +kernel⟩
abbrev s_mixed_row : Stmt := topS 50
abbrev N_mixed_row : List Str := ["machine", "u", "v"]
theorem sc_mixed_row : FnScope N_mixed_row ["machine", "u", "v"] (defScope s_mixed_row) := ⟨rfl, rfl, rfl, by decide +kernel, rfl, by decide +kernel, by decide +kernel⟩
abbrev s_counted_row : Stmt := topS 51
abbrev N_counted_row : List Str := ["machine", "counts", "at", "name"]
theorem sc_counted_row : FnScope N_counted_row ["machine", "counts"] (defScope s_counted_row) := ⟨rfl, rfl, rfl, by decide +kernel, rfl, by decide +kernel, by decide +kernel⟩
abbrev s_lacking_counts : Stmt := topS 52
abbrev N_lacking_counts : List Str := ["most", "counts", "at", "high"]
theorem sc_lacking_counts : FnScope N_lacking_counts ["most", "counts"] (defScope s_lacking_counts) := ⟨rfl, rfl, rfl, by decide +kernel, rfl, by decide +kernel, by decide +kernel⟩
abbrev s_resting_effect : Stmt := topS 54
abbrev N_resting_effect : List Str := ["machine"]
theorem sc_resting_effect : FnScope N_resting_effect ["machine"] (defScope s_resting_effect) := ⟨rfl, rfl, rfl, by decide +kernel, rfl, by decide +kernel, by decide +kernel⟩
abbrev s_first_still : Stmt := topS 55
abbrev N_first_still : List Str := ["effect", "state", "led"]
theorem sc_first_still : FnScope N_first_still ["effect"] (defScope s_first_still) := ⟨rfl, rfl, rfl, by decide +kernel, rfl, by decide +kernel, by decide +kernel⟩
abbrev s_first_mixes : Stmt := topS 56
abbrev N_first_mixes : List Str := ["machine", "nothing", "found", "names", "at", "name", "other", "row", "effect"]
theorem sc_first_mixes : FnScope N_first_mixes ["machine"] (defScope s_first_mixes) := ⟨rfl, rfl, rfl, by decide +kernel, rfl, by decide +kernel, by decide +kernel⟩
abbrev s_led_around : Stmt := topS 57
abbrev N_led_around : List Str := ["deed", "rounds", "step", "name", "images", "effect"]
theorem sc_led_around : FnScope N_led_around ["deed", "rounds", "step"] (defScope s_led_around) := ⟨rfl, rfl, rfl, by decide +kernel, rfl, by decide +kernel, by decide +kernel⟩
abbrev s_still_quotient : Stmt := topS 58
abbrev N_still_quotient : List Str := ["one", "other", "effect"]
theorem sc_still_quotient : FnScope N_still_quotient ["one", "other"] (defScope s_still_quotient) := ⟨rfl, rfl, rfl, by decide +kernel, rfl, by decide +kernel, by decide +kernel⟩
abbrev s_listed_mixes : Stmt := topS 59
abbrev N_listed_mixes : List Str := ["machine", "steps", "nothing", "found", "starts", "queue", "at", "effect", "row", "images", "step", "pair"]
theorem sc_listed_mixes : FnScope N_listed_mixes ["machine", "steps"] (defScope s_listed_mixes) := ⟨rfl, rfl, rfl, by decide +kernel, rfl, by decide +kernel, by decide +kernel⟩
abbrev s_search_mixes : Stmt := topS 60
abbrev N_search_mixes : List Str := ["machine", "steps", "rounds", "found", "astray", "at", "deed", "pair"]
theorem sc_search_mixes : FnScope N_search_mixes ["machine"] (defScope s_search_mixes) := ⟨rfl, rfl, rfl, by decide +kernel, rfl, by decide +kernel, by decide +kernel⟩
abbrev s_order_verdict : Stmt := topS 61
abbrev N_order_verdict : List Str := ["machine", "found", "astray", "effect", "row", "other", "mixes", "lists", "mix", "most", "at", "rows", "counts"]
theorem sc_order_verdict : FnScope N_order_verdict ["machine"] (defScope s_order_verdict) := ⟨rfl, rfl, rfl, by decide +kernel, rfl, by decide +kernel, by decide +kernel⟩
abbrev s_shut_leak : Stmt := topS 63
abbrev N_shut_leak : List Str := ["machine", "states", "state", "name", "images"]
theorem sc_shut_leak : FnScope N_shut_leak ["machine", "states"] (defScope s_shut_leak) := ⟨rfl, rfl, rfl, by decide +kernel, rfl, by decide +kernel, by decide +kernel⟩
abbrev s_shut_machine : Stmt := topS 64
abbrev N_shut_machine : List Str := ["machine", "states", "leak", "name", "images", "state"]
theorem sc_shut_machine : FnScope N_shut_machine ["machine", "states"] (defScope s_shut_machine) := ⟨rfl, rfl, rfl, by decide +kernel, rfl, by decide +kernel, by decide +kernel⟩
abbrev s_L_deal : Stmt := topS 66
abbrev N_L_deal : List Str := ["_law_script", "_law_base", "_law_cells", "_law_cell", "_law_mix"]
theorem sc_L_deal : FnScope N_L_deal ["_law_script", "_law_base"] (defScope s_L_deal) := ⟨rfl, rfl, rfl, by decide +kernel, rfl, by decide +kernel, by decide +kernel⟩
abbrev s_L_any : Stmt := topS 67
abbrev N_L_any : List Str := ["_law_deal_here", "_law_bound", "_law_rest"]
theorem sc_L_any : FnScope N_L_any ["_law_deal_here", "_law_bound"] (defScope s_L_any) := ⟨rfl, rfl, rfl, by decide +kernel, rfl, by decide +kernel, by decide +kernel⟩
abbrev s_L_of : Stmt := topS 68
abbrev N_L_of : List Str := ["_law_deal_here", "_law_some"]
theorem sc_L_of : FnScope N_L_of ["_law_deal_here", "_law_some"] (defScope s_L_of) := ⟨rfl, rfl, rfl, by decide +kernel, rfl, by decide +kernel, by decide +kernel⟩
abbrev s_L_turn : Stmt := topS 69
abbrev N_L_turn : List Str := ["_law_deal_here", "_law_many", "_law_left", "_law_found", "_law_step"]
theorem sc_L_turn : FnScope N_L_turn ["_law_deal_here", "_law_many"] (defScope s_L_turn) := ⟨rfl, rfl, rfl, by decide +kernel, rfl, by decide +kernel, by decide +kernel⟩
abbrev s_L_common : Stmt := topS 70
abbrev N_L_common : List Str := ["_law_one", "_law_other", "_law_step"]
theorem sc_L_common : FnScope N_L_common ["_law_one", "_law_other"] (defScope s_L_common) := ⟨rfl, rfl, rfl, by decide +kernel, rfl, by decide +kernel, by decide +kernel⟩
abbrev s_L_then : Stmt := topS 71
abbrev N_L_then : List Str := ["_law_one", "_law_other", "_law_state"]
theorem sc_L_then : FnScope N_L_then ["_law_one", "_law_other"] (defScope s_L_then) := ⟨rfl, rfl, rfl, by decide +kernel, rfl, by decide +kernel, by decide +kernel⟩
abbrev s_L_regular : Stmt := topS 72
abbrev N_L_regular : List Str := ["_law_turns", "_law_found", "_law_places", "_law_at", "_law_one", "_law_made"]
theorem sc_L_regular : FnScope N_L_regular ["_law_turns"] (defScope s_L_regular) := ⟨rfl, rfl, rfl, by decide +kernel, rfl, by decide +kernel, by decide +kernel⟩
abbrev s_L_hours : Stmt := topS 73
abbrev N_L_hours : List Str := ["_law_deal_here", "_law_many", "_law_units", "_law_found", "_law_a", "_law_step", "_law_b", "_law_x"]
theorem sc_L_hours : FnScope N_L_hours ["_law_deal_here"] (defScope s_L_hours) := ⟨rfl, rfl, rfl, by decide +kernel, rfl, by decide +kernel, by decide +kernel⟩
abbrev s_L_sheared : Stmt := topS 74
abbrev N_L_sheared : List Str := ["_law_deal_here", "_law_wide", "_law_high", "_law_pairs", "_law_found", "_law_number", "_law_x", "_law_y"]
theorem sc_L_sheared : FnScope N_L_sheared ["_law_deal_here"] (defScope s_L_sheared) := ⟨rfl, rfl, rfl, by decide +kernel, rfl, by decide +kernel, by decide +kernel⟩
abbrev s_L_signed : Stmt := topS 75
abbrev N_L_signed : List Str := ["_law_deal_here", "_law_many", "_law_found", "_law_step", "_law_one", "_law_odd", "_law_x"]
theorem sc_L_signed : FnScope N_L_signed ["_law_deal_here"] (defScope s_L_signed) := ⟨rfl, rfl, rfl, by decide +kernel, rfl, by decide +kernel, by decide +kernel⟩
abbrev s_L_wheels : Stmt := topS 76
abbrev N_L_wheels : List Str := ["_law_deal_here", "_law_many", "_law_wheels_here", "_law_first", "_law_state"]
theorem sc_L_wheels : FnScope N_L_wheels ["_law_deal_here"] (defScope s_L_wheels) := ⟨rfl, rfl, rfl, by decide +kernel, rfl, by decide +kernel, by decide +kernel⟩
abbrev s_L_apart : Stmt := topS 77
abbrev N_L_apart : List Str := ["_law_deal_here", "_law_sizes", "_law_step", "_law_found", "_law_images", "_law_many", "_law_by", "_law_start", "_law_state"]
theorem sc_L_apart : FnScope N_L_apart ["_law_deal_here"] (defScope s_L_apart) := ⟨rfl, rfl, rfl, by decide +kernel, rfl, by decide +kernel, by decide +kernel⟩
abbrev s_L_shape : Stmt := topS 78
abbrev N_L_shape : List Str := ["_law_deal_here", "_law_kind", "_law_many", "_law_step"]
theorem sc_L_shape : FnScope N_L_shape ["_law_deal_here"] (defScope s_L_shape) := ⟨rfl, rfl, rfl, by decide +kernel, rfl, by decide +kernel, by decide +kernel⟩
abbrev s_L_names : Stmt := topS 79
abbrev N_L_names : List Str := ["_law_deal_here", "_law_many", "_law_found", "_law_at", "_law_name", "_law_step"]
theorem sc_L_names : FnScope N_L_names ["_law_deal_here", "_law_many"] (defScope s_L_names) := ⟨rfl, rfl, rfl, by decide +kernel, rfl, by decide +kernel, by decide +kernel⟩
abbrev s_L_placed : Stmt := topS 80
abbrev N_L_placed : List Str := ["_law_places", "_law_one", "_law_images", "_law_state", "_law_led"]
theorem sc_L_placed : FnScope N_L_placed ["_law_places", "_law_one"] (defScope s_L_placed) := ⟨rfl, rfl, rfl, by decide +kernel, rfl, by decide +kernel, by decide +kernel⟩
abbrev s_L_deeds : Stmt := topS 81
abbrev N_L_deeds : List Str := ["_law_deal_here", "_law_turns", "_law_places", "_law_name", "_law_one"]
theorem sc_L_deeds : FnScope N_L_deeds ["_law_deal_here", "_law_turns"] (defScope s_L_deeds) := ⟨rfl, rfl, rfl, by decide +kernel, rfl, by decide +kernel, by decide +kernel⟩
abbrev s_L_raised : Stmt := topS 82
abbrev N_L_raised : List Str := ["_law_effect_here", "_law_times", "_law_found", "_law_square", "_law_step"]
theorem sc_L_raised : FnScope N_L_raised ["_law_effect_here", "_law_times"] (defScope s_L_raised) := ⟨rfl, rfl, rfl, by decide +kernel, rfl, by decide +kernel, by decide +kernel⟩
abbrev s_L_effect : Stmt := topS 83
abbrev N_L_effect : List Str := ["_law_deeds_here", "_law_row", "_law_known", "_law_found", "_law_part"]
theorem sc_L_effect : FnScope N_L_effect ["_law_deeds_here", "_law_row"] (defScope s_L_effect) := ⟨rfl, rfl, rfl, by decide +kernel, rfl, by decide +kernel, by decide +kernel⟩
abbrev s_L_counts : Stmt := topS 84
abbrev N_L_counts : List Str := ["_law_names_here", "_law_row", "_law_found", "_law_part", "_law_one", "_law_more"]
theorem sc_L_counts : FnScope N_L_counts ["_law_names_here", "_law_row"] (defScope s_L_counts) := ⟨rfl, rfl, rfl, by decide +kernel, rfl, by decide +kernel, by decide +kernel⟩
abbrev s_L_ends : Stmt := topS 85
abbrev N_L_ends : List Str := ["_law_turns", "_law_most", "_law_many", "_law_nothing", "_law_found", "_law_layer", "_law_length", "_law_later", "_law_counts_here", "_law_at", "_law_one", "_law_further", "_law_known", "_law_effect_here", "_law_state"]
theorem sc_L_ends : FnScope N_L_ends ["_law_turns", "_law_most"] (defScope s_L_ends) := ⟨rfl, rfl, rfl, by decide +kernel, rfl, by decide +kernel, by decide +kernel⟩
abbrev s_L_list_right : Stmt := topS 86
abbrev N_L_list_right : List Str := ["_law_turns", "_law_counts_here", "_law_effects", "_law_size", "_law_state", "_law_done", "_law_one", "_law_at", "_law_other", "_law_many", "_law_effect_here"]
theorem sc_L_list_right : FnScope N_L_list_right ["_law_turns", "_law_counts_here", "_law_effects"] (defScope s_L_list_right) := ⟨rfl, rfl, rfl, by decide +kernel, rfl, by decide +kernel, by decide +kernel⟩
abbrev s_L_parts_right : Stmt := topS 87
abbrev N_L_parts_right : List Str := ["_law_deeds_here", "_law_told", "_law_names_here", "_law_first", "_law_second", "_law_one", "_law_other", "_law_name", "_law_images"]
theorem sc_L_parts_right : FnScope N_L_parts_right ["_law_deeds_here", "_law_told"] (defScope s_L_parts_right) := ⟨rfl, rfl, rfl, by decide +kernel, rfl, by decide +kernel, by decide +kernel⟩
abbrev s_L_shut : Stmt := topS 88
abbrev N_L_shut : List Str := ["_law_images_of_all", "_law_start", "_law_found", "_law_step", "_law_images"]
theorem sc_L_shut : FnScope N_L_shut ["_law_images_of_all", "_law_start"] (defScope s_L_shut) := ⟨rfl, rfl, rfl, by decide +kernel, rfl, by decide +kernel, by decide +kernel⟩
abbrev s_L_beside_right : Stmt := topS 89
abbrev N_L_beside_right : List Str := ["_law_deal_here", "_law_deeds_here", "_law_machine", "_law_names_here", "_law_some", "_law_shut_here", "_law_more", "_law_pair", "_law_name", "_law_images"]
theorem sc_L_beside_right : FnScope N_L_beside_right ["_law_deal_here", "_law_deeds_here", "_law_machine"] (defScope s_L_beside_right) := ⟨rfl, rfl, rfl, by decide +kernel, rfl, by decide +kernel, by decide +kernel⟩
abbrev s_law : Stmt := topS 90
abbrev N_law : List Str := ["_law_script", "_law_deal_here", "_law_turns", "_law_deeds_here", "_law_machine", "_law_told", "_law_images", "_law_lists", "_law_counts_here", "_law_name", "_law_one"]
theorem sc_law : FnScope N_law ["_law_script"] (defScope s_law) := ⟨rfl, rfl, rfl, by decide +kernel, rfl, by decide +kernel, by decide +kernel⟩
/-- a def as the top has left it: where it stands, how its arguments bind, its name's value -/
structure Df (K : PySem.W.Frag) (mg : Str → Option Value) (x qual : Str) (st : Stmt) (ps : List Str) (f : Addr) (fd : FuncData) : Prop where
  F : Fun K x qual st f fd
  b : Binds K fd ps []
  g : mg x = some (.ref f)
/-- a method -/
structure Dm (K : PySem.W.Frag) (x qual : Str) (st : Stmt) (ps : List Str) (f : Addr) (fd : FuncData) : Prop where
  F : Fun K x qual st f fd
  b : Binds K fd ps []
structure Tx (K : PySem.W.Frag) (mg : Str → Option Value) (C : Addr) (A : Nat → Addr) (FD : Nat → FuncData) : Prop where
  cl : Cls K C
  nD : NoAttr K C "deeds"
  nN : NoAttr K C "names"
  nS : NoAttr K C "size"
  gC : mg "Machine" = some (.ref C)
  d_is_integer : Df K mg "is_integer" "is_integer" s_is_integer ["value"] (A 0) (FD 0)
  d_is_below : Df K mg "is_below" "is_below" s_is_below ["value", "bound"] (A 1) (FD 1)
  d_is_text : Df K mg "is_text" "is_text" s_is_text ["value"] (A 2) (FD 2)
  d_is_sequence : Df K mg "is_sequence" "is_sequence" s_is_sequence ["value"] (A 3) (FD 3)
  d_is_name : Df K mg "is_name" "is_name" s_is_name ["value"] (A 4) (FD 4)
  d_common_divisor : Df K mg "common_divisor" "common_divisor" s_common_divisor ["one", "other"] (A 5) (FD 5)
  d_common_multiple : Df K mg "common_multiple" "common_multiple" s_common_multiple ["one", "other"] (A 6) (FD 6)
  d_row_depth : Df K mg "row_depth" "row_depth" s_row_depth ["row"] (A 7) (FD 7)
  d_first_stranger : Df K mg "first_stranger" "first_stranger" s_first_stranger ["row", "names"] (A 8) (FD 8)
  d_need_names : Df K mg "need_names" "need_names" s_need_names ["row", "names"] (A 9) (FD 9)
  d_name_counts : Df K mg "name_counts" "name_counts" s_name_counts ["row", "names"] (A 10) (FD 10)
  d_row_counts : Df K mg "row_counts" "row_counts" s_row_counts ["row", "names"] (A 11) (FD 11)
  d_is_deed : Df K mg "is_deed" "is_deed" s_is_deed ["value", "earlier"] (A 12) (FD 12)
  mkC : Mk K C (A 13)
  d_Machine_init : Dm K "__init__" "Machine.__init__" s_Machine_init ["self", "deeds"] (A 13) (FD 13)
  d_effect_then : Df K mg "effect_then" "effect_then" s_effect_then ["one", "other"] (A 14) (FD 14)
  d_power_by : Df K mg "power_by" "power_by" s_power_by ["thing", "times", "nothing", "then"] (A 15) (FD 15)
  d_made_by : Df K mg "made_by" "made_by" s_made_by ["row", "deeds", "nothing", "then"] (A 16) (FD 16)
  d_row_effect : Df K mg "row_effect" "row_effect" s_row_effect ["machine", "row"] (A 17) (FD 17)
  d_fewer_deeds : Df K mg "fewer_deeds" "fewer_deeds" s_fewer_deeds ["machine", "names"] (A 18) (FD 18)
  d_side_machine : Df K mg "side_machine" "side_machine" s_side_machine ["one", "other"] (A 19) (FD 19)
  d_undone_effect : Df K mg "undone_effect" "undone_effect" s_undone_effect ["effect"] (A 20) (FD 20)
  d_parted_state : Df K mg "parted_state" "parted_state" s_parted_state ["one", "other"] (A 21) (FD 21)
  d_turn_rings : Df K mg "turn_rings" "turn_rings" s_turn_rings ["turn"] (A 22) (FD 22)
  d_turn_round : Df K mg "turn_round" "turn_round" s_turn_round ["turn"] (A 23) (FD 23)
  d_turn_fault : Df K mg "turn_fault" "turn_fault" s_turn_fault ["machine"] (A 24) (FD 24)
  d_need_permuting : Df K mg "need_permuting" "need_permuting" s_need_permuting ["machine"] (A 25) (FD 25)
  d_backward_parts : Df K mg "backward_parts" "backward_parts" s_backward_parts ["row", "rounds"] (A 26) (FD 26)
  d_named_rounds : Df K mg "named_rounds" "named_rounds" s_named_rounds ["machine"] (A 27) (FD 27)
  d_back_row : Df K mg "back_row" "back_row" s_back_row ["machine", "row"] (A 28) (FD 28)
  d_mixed_row : Df K mg "mixed_row" "mixed_row" s_mixed_row ["machine", "u", "v"] (A 29) (FD 29)
  d_counted_row : Df K mg "counted_row" "counted_row" s_counted_row ["machine", "counts"] (A 30) (FD 30)
  d_lacking_counts : Df K mg "lacking_counts" "lacking_counts" s_lacking_counts ["most", "counts"] (A 31) (FD 31)
  d_resting_effect : Df K mg "resting_effect" "resting_effect" s_resting_effect ["machine"] (A 32) (FD 32)
  d_first_still : Df K mg "first_still" "first_still" s_first_still ["effect"] (A 33) (FD 33)
  d_first_mixes : Df K mg "first_mixes" "first_mixes" s_first_mixes ["machine"] (A 34) (FD 34)
  d_led_around : Df K mg "led_around" "led_around" s_led_around ["deed", "rounds", "step"] (A 35) (FD 35)
  d_still_quotient : Df K mg "still_quotient" "still_quotient" s_still_quotient ["one", "other"] (A 36) (FD 36)
  d_listed_mixes : Df K mg "listed_mixes" "listed_mixes" s_listed_mixes ["machine", "steps"] (A 37) (FD 37)
  d_search_mixes : Df K mg "search_mixes" "search_mixes" s_search_mixes ["machine"] (A 38) (FD 38)
  d_order_verdict : Df K mg "order_verdict" "order_verdict" s_order_verdict ["machine"] (A 39) (FD 39)
  d_shut_leak : Df K mg "shut_leak" "shut_leak" s_shut_leak ["machine", "states"] (A 40) (FD 40)
  d_shut_machine : Df K mg "shut_machine" "shut_machine" s_shut_machine ["machine", "states"] (A 41) (FD 41)
  d_L_deal : Df K mg "_law_deal" "_law_deal" s_L_deal ["_law_script", "_law_base"] (A 42) (FD 42)
  d_L_any : Df K mg "_law_any" "_law_any" s_L_any ["_law_deal_here", "_law_bound"] (A 43) (FD 43)
  d_L_of : Df K mg "_law_of" "_law_of" s_L_of ["_law_deal_here", "_law_some"] (A 44) (FD 44)
  d_L_turn : Df K mg "_law_turn" "_law_turn" s_L_turn ["_law_deal_here", "_law_many"] (A 45) (FD 45)
  d_L_common : Df K mg "_law_common" "_law_common" s_L_common ["_law_one", "_law_other"] (A 46) (FD 46)
  d_L_then : Df K mg "_law_then" "_law_then" s_L_then ["_law_one", "_law_other"] (A 47) (FD 47)
  d_L_regular : Df K mg "_law_regular" "_law_regular" s_L_regular ["_law_turns"] (A 48) (FD 48)
  d_L_hours : Df K mg "_law_hours" "_law_hours" s_L_hours ["_law_deal_here"] (A 49) (FD 49)
  d_L_sheared : Df K mg "_law_sheared" "_law_sheared" s_L_sheared ["_law_deal_here"] (A 50) (FD 50)
  d_L_signed : Df K mg "_law_signed" "_law_signed" s_L_signed ["_law_deal_here"] (A 51) (FD 51)
  d_L_wheels : Df K mg "_law_wheels" "_law_wheels" s_L_wheels ["_law_deal_here"] (A 52) (FD 52)
  d_L_apart : Df K mg "_law_apart" "_law_apart" s_L_apart ["_law_deal_here"] (A 53) (FD 53)
  d_L_shape : Df K mg "_law_shape" "_law_shape" s_L_shape ["_law_deal_here"] (A 54) (FD 54)
  d_L_names : Df K mg "_law_names" "_law_names" s_L_names ["_law_deal_here", "_law_many"] (A 55) (FD 55)
  d_L_placed : Df K mg "_law_placed" "_law_placed" s_L_placed ["_law_places", "_law_one"] (A 56) (FD 56)
  d_L_deeds : Df K mg "_law_deeds" "_law_deeds" s_L_deeds ["_law_deal_here", "_law_turns"] (A 57) (FD 57)
  d_L_raised : Df K mg "_law_raised" "_law_raised" s_L_raised ["_law_effect_here", "_law_times"] (A 58) (FD 58)
  d_L_effect : Df K mg "_law_effect" "_law_effect" s_L_effect ["_law_deeds_here", "_law_row"] (A 59) (FD 59)
  d_L_counts : Df K mg "_law_counts" "_law_counts" s_L_counts ["_law_names_here", "_law_row"] (A 60) (FD 60)
  d_L_ends : Df K mg "_law_ends" "_law_ends" s_L_ends ["_law_turns", "_law_most"] (A 61) (FD 61)
  d_L_list_right : Df K mg "_law_list_right" "_law_list_right" s_L_list_right ["_law_turns", "_law_counts_here", "_law_effects"] (A 62) (FD 62)
  d_L_parts_right : Df K mg "_law_parts_right" "_law_parts_right" s_L_parts_right ["_law_deeds_here", "_law_told"] (A 63) (FD 63)
  d_L_shut : Df K mg "_law_shut" "_law_shut" s_L_shut ["_law_images_of_all", "_law_start"] (A 64) (FD 64)
  d_L_beside_right : Df K mg "_law_beside_right" "_law_beside_right" s_L_beside_right ["_law_deal_here", "_law_deeds_here", "_law_machine"] (A 65) (FD 65)
  d_law : Df K mg "law" "law" s_law ["_law_script"] (A 66) (FD 66)
  z_abs : mg "abs" = none
  z_all : mg "all" = none
  z_bool : mg "bool" = none
  z_dict : mg "dict" = none
  z_enumerate : mg "enumerate" = none
  z_int : mg "int" = none
  z_isinstance : mg "isinstance" = none
  z_len : mg "len" = none
  z_list : mg "list" = none
  z_max : mg "max" = none
  z_range : mg "range" = none
  z_repr : mg "repr" = none
  z_reversed : mg "reversed" = none
  z_set : mg "set" = none
  z_sorted : mg "sorted" = none
  z_str : mg "str" = none
  z_tuple : mg "tuple" = none
  z_zip : mg "zip" = none
  g_LETTERS : ∃ t, mg "LETTERS" = some (Value.str "abcdefghijklmnopqrstuvwxyz" t)
  g_LONGEST : ∃ t, mg "LONGEST" = some (Value.int 8 t)
  g_MOST_STATES : ∃ t, mg "MOST_STATES" = some (Value.int 49 t)
  g_MOST_DEEDS : ∃ t, mg "MOST_DEEDS" = some (Value.int 8 t)
  g_DEEPEST : ∃ t, mg "DEEPEST" = some (Value.int 8 t)
end Eo
/-! further rules: enumerate of a tuple, zip of a list and a tuple, in a tuple by data, xs[i] op= e -/
namespace Eo
open PySem PySem.Spec PyProof.Rows L2
theorem types_ne {a b : String} (h : a ≠ b) : Value.type a = Value.type b → False := fun q => h (Value.type.inj q)
/-- the tuple at a, each item in a new pair with its number -/
def ItE (K : PySem.W.Frag) (a : Addr) : It where
  go i H := ∃ (zs : List V) (z : V), SqT K H a zs ∧ zs[i]? = some z
  yld i H v H' := ∃ (T : Addr) (z : V), v = .ref T ∧ H T = none ∧ H' = upd H T (.tup [.int (i : Nat), z]) ∧ ∀ zs, SqT K H a zs → zs[i]? = some z
  stop i H := ∃ zs : List V, SqT K H a zs ∧ zs.length = i
theorem enumT_turns {P : Program} {w : World} {K : PySem.W.Frag} {tgs : List Expr} {tk : Nat} {tp : Pos} (a en it : Addr) (hne : en ≠ it) :
    Turn P w K (.Tuple tgs tk tp) (ItE K a) [en, it] en (fun i h => (∃ old, IsEnum h en it ((i : Nat) : Int) old) ∧ h.IsTupleIter it a i) where
  mem := List.mem_cons_self
  obj := fun i h st b hb => by
    obtain ⟨⟨old, q⟩, o, q1, q2, q3⟩ := st
    rcases List.mem_cons.mp hb with rfl | hb
    · exact ⟨_, q, fun v z => by cases z⟩
    · rw [List.mem_singleton] at hb
      subst hb
      exact ⟨o, q1, fun v z => by rw [q3] at z; cases z⟩
  keep := fun i h h' st k => ⟨let ⟨old, q⟩ := st.1; ⟨old, k en List.mem_cons_self _ q⟩, st.2.at fun o q => k it (List.mem_cons_of_mem _ List.mem_cons_self) o q⟩
  item := by
    intro X e1 e2 e3 hc i pins s σ H E I fresh st hg
    subst e1; subst e2; subst e3
    obtain ⟨⟨old, q⟩, qi⟩ := st
    obtain ⟨zs, z, hz, hzi⟩ := hg
    obtain ⟨us, rz, ut, _⟩ := I.tuple hz
    have lz := rz.length
    have len : i < us.toArray.size := by
      have := (List.getElem?_eq_some_iff.mp hzi).1
      rw [List.size_toArray]
      omega
    have hT : s.heap.IsTuple a us.toArray := ut
    have an : a ≠ it := fun q0 => by
      obtain ⟨o, g1, g2, _⟩ := hT
      obtain ⟨o', g3, g4, _⟩ := qi
      rw [q0, g3] at g1
      cases g1
      exact types_ne (by decide) (g4.symm.trans g2)
    have enf : en ∉ [it, a] := fun hm => by
      rcases List.mem_cons.mp hm with q0 | hm
      · exact hne q0
      · rw [List.mem_singleton] at hm
        obtain ⟨o, g1, g2, _⟩ := hT
        rw [← hm, q] at g1
        cases g1
        exact types_ne (by decide) g2
    have hel : en < s.heap.objs.size := Heap.lt_size q
    have hil : it < s.heap.objs.size := by obtain ⟨_, g, _⟩ := qi; exact Heap.lt_size g
    refine wpAny_pyNext_enum_itemD (Draws.tuple (A := X.A.in1) (I.ok.hd hc) it a an us.toArray) q ⟨qi, hT⟩ len hne enf fun x h1 tk px he1 st1 hT1 hs1 hk1 => ?_
    refine ⟨_, rfl, wpAny_letOwnedTupleGo_enum (s := { s with heap := h1, toks := tk + 1 }) he1 fun h2 he2 sb => ?_⟩
    have hT2 : h2.get? s.heap.objs.size = some { cls := .type "tuple", data := .seq #[.int i tk, x] } := (sb.2 _ (Nat.ne_of_gt hel)).trans hT1
    obtain ⟨u, hu, ru⟩ := rz.get hzi
    have xu : x = u := by
      have px' : us[i]? = some x := by simpa using px
      rw [hu] at px'
      exact (Option.some.inj px').symm
    subst xu
    have new : ObjOk X.prog X.w (upd H s.heap.objs.size (.tup [.int (i : Nat), z])) h2 s.heap.objs.size (.tup [.int (i : Nat), z]) :=
      ⟨show 2 ≤ sizeLine by decide, [.int i tk, x], .cons ⟨_, rfl⟩ (.cons ru .nil), ⟨_, hT2, rfl, _, rfl⟩⟩
    have J : Inv X pins σ (upd H s.heap.objs.size (.tup [.int (i : Nat), z])) { s with heap := h2, toks := tk + 1 } :=
      I.turnedNew (ch := [en, it]) (fun b o hb g => (sb.2 b fun y => hb (by rw [y]; exact List.mem_cons_self)).trans (hk1 b o (fun y => hb (by rw [y]; exact List.mem_cons_self)) (fun y => hb (by rw [y]; exact List.mem_cons_of_mem _ List.mem_cons_self)) g)) fresh (Nat.le_refl _) new
    refine ⟨.ref s.heap.objs.size, _, J, rfl, ⟨_, z, rfl, I.hok.fresh (Nat.le_refl _), rfl, fun ys hy => by rw [I.tuple_inj hy hz]; exact hzi⟩, ⟨⟨x, ?_⟩, st1.1.at fun o g => (sb.2 it (Ne.symm hne)).trans g⟩, fun b hb => ?_⟩
    · rw [show ((i + 1 : Nat) : Int) = (i : Int) + 1 by omega]
      exact he2
    · have hlt : b < s.heap.objs.size := by
        rcases List.mem_cons.mp hb with rfl | hb
        · exact hel
        · rw [List.mem_singleton] at hb
          rw [hb]
          exact hil
      rw [upd_ne (Nat.ne_of_lt hlt)]
      exact (fresh b hb).1
  done := by
    intro X e1 e2 e3 hc i pins s σ H E I fresh st hg
    subst e1; subst e2; subst e3
    obtain ⟨⟨old, q⟩, qi⟩ := st
    obtain ⟨zs, hz, hle⟩ := hg
    obtain ⟨us, rz, ut, _⟩ := I.tuple hz
    have hT : s.heap.IsTuple a us.toArray := ut
    have lz := rz.length
    obtain ⟨f0, f1, f2, f3, f4, f5⟩ := fresh it (List.mem_cons_of_mem _ List.mem_cons_self)
    have an : a ≠ it := fun q0 => by
      obtain ⟨o, g1, g2, _⟩ := hT
      obtain ⟨o', g3, g4, _⟩ := qi
      rw [q0, g3] at g1
      cases g1
      exact types_ne (by decide) (g4.symm.trans g2)
    have hsz : us.toArray.size = i := by
      rw [List.size_toArray]
      omega
    subst hsz
    exact wpAny_pyNext_enum_endD (Draws.tuple (A := X.A.in1) (I.ok.hd hc) it a an us.toArray) q ⟨qi, hT⟩ fun h' eb => ⟨rfl, I.turned (t' := s.toks) (fun b o hb g => eb b o hb g) f0 f1 f3 f4 f5⟩
  self := fun A i s Q E st h => let ⟨⟨_, q⟩, _⟩ := st; wpAny_pyIter_enum q h
/-- enumerate(v) begins -/
theorem enum1_meets {v : Value} {o : Obj} {G : Heap → Prop} (B : Begins v o G) :
    Meets (Builtin.«enumerate.__new__» ⟨[.type "enumerate", v], []⟩) (fun _ R s => G s.heap ∧
      R (.ok (.ret (.ref (s.heap.push o).objs.size))) { s with heap := (s.heap.push o).push { cls := .type "enumerate", data := .fields #[.none, .bool false, .ref s.heap.objs.size, rawInt 0, .none, .none] } }) :=
  .of_wp fun prog w A R s h => by
    obtain ⟨hp, g, d, tk, os⟩ := s
    obtain ⟨h1, h⟩ := h
    have sub0 := sub_enumerate
    have it0 : ∀ {A' : Around} {E : Value → Shared → Prop} {Q : Value → Shared → Prop}, Q (.ref hp.objs.size) ⟨hp.push o, g, d, tk, os⟩ → wpAny (model prog w) A' (pyIter v) Q E ⟨hp, g, d, tk, os⟩ :=
      fun q => B.iter prog w _ _ ⟨hp, g, d, tk, os⟩ _ h1 q
    wp_walk using it0
    refine wpAny_stack_any fun st => ?_
    refine wpAny_pure ?_
    split
    · next c _ _ _ _ _ =>
      generalize (c == Value.type "enumerate") = yes
      cases yes <;> (wp_walk using it0; exact ⟨_, rfl, h⟩)
    · wp_walk using it0
      exact ⟨_, rfl, h⟩
theorem enum1_call {prog : Program} {w : World} {A : Around} {E : Value → Shared → Prop} {s : Shared} {v : Value} {o : Obj} {G : Heap → Prop} {Q : Value → Shared → Prop} (B : Begins v o G) (h1 : G s.heap)
    (h : ∀ h', IsEnum h' (s.heap.objs.size + 1) s.heap.objs.size 0 .none → h'.get? s.heap.objs.size = some o →
      (∀ b u, s.heap.get? b = some u → h'.get? b = some u) → Q (.ref (s.heap.objs.size + 1)) { s with heap := h' }) : wpAny (model prog w) A (call (.type "enumerate") [v]) Q E s := by
  refine callType_new F.called_enumerate (by decide) (F.typeCall_enumerate_1 _) (F.newCall_enumerate_1 _) (fun obj => F.args_object_init_2 obj _) F.entry_enumerate_new (enum1_meets B) ⟨h1, ?_⟩
  have z1 : (s.heap.push o).objs.size = s.heap.objs.size + 1 := Heap.size_push ..
  have at1 : ((s.heap.push o).push { cls := .type "enumerate", data := .fields #[.none, .bool false, .ref s.heap.objs.size, rawInt 0, .none, .none] }).get? (s.heap.push o).objs.size = some { cls := .type "enumerate", data := .fields #[.none, .bool false, .ref s.heap.objs.size, rawInt 0, .none, .none] } := Heap.get?_push_size _ rfl
  show _ ∧ _
  rw [z1] at at1 ⊢
  exact ⟨⟨_, at1, rfl⟩, h _ at1 (Heap.get?_push_of_some _ (Heap.get?_push_size _ B.free)) fun b u x => Heap.get?_push_of_some _ (Heap.get?_push_of_some _ x)⟩
def iEnumT (K : PySem.W.Frag) (ta : TA) : TI := fun σ H R => ta σ H fun vs H1 => ∃ (a : Addr) (zs : List V), vs = [.ref a] ∧ SqT K H1 a zs ∧ R (ItE K a) H1
theorem pi_enumT {X : Cx} {e : Expr} {ta : TA} {p pos tp : Pos} {tgs : List Expr} {tk : Nat} (hg : Gl X "enumerate") (hm : X.mg "enumerate" = none) (ha : PA X [e] ta) (hs : starEach [e] X.env = [(false, eval e X.env)] := by rfl) :
    PI X (.Tuple tgs tk tp) (.Call (.Name "enumerate" p) [e] [] pos) (iEnumT X.K ta) := by
  refine ⟨fun pins s σ H R I h => ?_⟩
  refine Call_ (ld_blt I hg hm boot_enumerate (PyProof.Rows.callWith_type1 (thn (ha.run pos pins s σ H _ I h) fun us s1 q => ?_) hs rfl))
  obtain ⟨vs, H1, I1, r1, a, zs, rfl, hz, q⟩ := q
  cases r1 with
  | cons r rr =>
    cases rr
    cases r
    obtain ⟨its, rv, ut, _⟩ := I1.tuple hz
    have hT : s1.heap.IsTuple a its.toArray := ut
    refine enum1_call (begins_tuple a its.toArray) hT fun h' he hi hk => wpAny_pyIter_enum he ?_
    have I2 : Inv X pins σ H1 { s1 with heap := h' } := I1.kept (t' := s1.toks) hk
    refine ⟨s1.heap.objs.size + 1, [s1.heap.objs.size + 1, s1.heap.objs.size], _, _, H1, rfl, I2, enumT_turns a (s1.heap.objs.size + 1) s1.heap.objs.size (Nat.succ_ne_self _), ⟨⟨.none, he⟩, ⟨_, hi, rfl, rfl⟩⟩, fun b hb => ?_, q⟩
    have hle : s1.heap.objs.size ≤ b := by
      rcases List.mem_cons.mp hb with rfl | hb
      · exact Nat.le_succ _
      · rw [List.mem_singleton.mp hb]
        exact Nat.le_refl _
    exact I1.fpOk hle (I1.hok.fresh hle)
end Eo
/-! zip of a list and a tuple -/
namespace Eo
open PySem PySem.Spec PyProof.Rows L2
/-- the list at a and the tuple at b, side by side, in new pairs -/
def ItZ (K : PySem.W.Frag) (a b : Addr) : It where
  go i H := ∃ (xs ys : List V) (x y : V), SqL K H a xs ∧ SqT K H b ys ∧ xs[i]? = some x ∧ ys[i]? = some y
  yld i H v H' := ∃ (T : Addr) (x y : V), v = .ref T ∧ H T = none ∧ H' = upd H T (.tup [x, y]) ∧ (∀ xs, SqL K H a xs → xs[i]? = some x) ∧ ∀ ys, SqT K H b ys → ys[i]? = some y
  stop i H := ∃ xs ys : List V, SqL K H a xs ∧ SqT K H b ys ∧ i ≤ xs.length ∧ i ≤ ys.length ∧ (i = xs.length ∨ i = ys.length)
theorem cell5 {c z TI TO i1 i2 : Addr} (h : c ∈ [z, TI, TO, i1, i2]) : c = z ∨ c = TI ∨ c = TO ∨ c = i1 ∨ c = i2 := by simpa using h
theorem zipM_turns {P : Program} {w : World} {K : PySem.W.Frag} {tgs : List Expr} {tk : Nat} {tp : Pos} {a b z TI TO i1 i2 : Addr} (S : ZipSep2 z TI TO i1 i2 [i1, a] [i2, b]) :
    Turn P w K (.Tuple tgs tk tp) (ItZ K a b) [z, TI, TO, i1, i2] z (fun i h => IsZip h z TI TO .none ∧ IsTupOf2 h TI (.ref i1) (.ref i2) ∧ (∃ x y, IsTupOf2 h TO x y) ∧ h.IsListIter i1 a i ∧ h.IsTupleIter i2 b i) where
  mem := List.mem_cons_self
  obj := fun i h st c hc => by
    obtain ⟨q1, q2, ⟨x, y, q3⟩, ⟨o1, e1, _, d1⟩, o2, e2, _, d2⟩ := st
    rcases cell5 hc with e | e | e | e | e <;> rw [e]
    · exact ⟨_, q1, fun v q => by cases q⟩
    · exact ⟨_, q2, fun v q => by cases q⟩
    · exact ⟨_, q3, fun v q => by cases q⟩
    · exact ⟨o1, e1, fun v q => by rw [d1] at q; cases q⟩
    · exact ⟨o2, e2, fun v q => by rw [d2] at q; cases q⟩
  keep := fun i h h' st k => by
    obtain ⟨q1, q2, ⟨x, y, q3⟩, q4, q5⟩ := st
    exact ⟨k _ (by simp) _ q1, k _ (by simp) _ q2, ⟨x, y, k _ (by simp) _ q3⟩, q4.at fun o q => k _ (by simp) o q, q5.at fun o q => k _ (by simp) o q⟩
  item := by
    intro X e1 e2 e3 hc i pins s σ H E I fresh st hg
    subst e1; subst e2; subst e3
    obtain ⟨q1, q2, ⟨x0, y0, q3⟩, q4, q5⟩ := st
    obtain ⟨xs, ys, x, y, hx, hy, gx, gy⟩ := hg
    obtain ⟨us, rx, pl, _⟩ := I.list hx
    obtain ⟨ws, ry, ut, _⟩ := I.tuple hy
    have hT : s.heap.IsTuple b ws.toArray := ut
    have lx := rx.length
    have ly := ry.length
    have len1 : i < us.toArray.size := by
      have := (List.getElem?_eq_some_iff.mp gx).1
      rw [List.size_toArray]
      omega
    have len2 : i < ws.toArray.size := by
      have := (List.getElem?_eq_some_iff.mp gy).1
      rw [List.size_toArray]
      omega
    have n1 : a ≠ i1 := fun q0 => by
      obtain ⟨o, g1, g2, _⟩ := pl.isList
      obtain ⟨o', g3, g4, _⟩ := q4
      rw [q0, g3] at g1
      cases g1
      exact types_ne (by decide) (g4.symm.trans g2)
    have n2 : b ≠ i2 := fun q0 => by
      obtain ⟨o, g1, g2, _⟩ := hT
      obtain ⟨o', g3, g4, _⟩ := q5
      rw [q0, g3] at g1
      cases g1
      exact types_ne (by decide) (g4.symm.trans g2)
    have zl : z < s.heap.objs.size := Heap.lt_size q1
    have hh := I.ok.hd hc
    refine wpAny_pyNext_zipD2_item (A := X.A) S (Draws.list (A := X.A.in1) hh i1 a n1 us.toArray) (Draws.tuple (A := X.A.in1) hh i2 b n2 ws.toArray) q1 q2 q3 ⟨q4, pl.isList⟩ ⟨q5, hT⟩ len1 len2 fun x1 x2 h1 tk p1 p2 z1 t1 s1 s2 hT1 hs1 hk1 => ?_
    refine ⟨_, rfl, wpAny_letOwnedTupleGo_zip (s := { s with heap := h1, toks := tk }) z1 fun h2 z2 sb => ?_⟩
    have hT2 : h2.get? s.heap.objs.size = some { cls := .type "tuple", data := .seq #[x1, x2] } := (sb.2 _ (Nat.ne_of_gt zl)).trans hT1
    obtain ⟨u, hu, ru⟩ := rx.get gx
    obtain ⟨w', hw, rw'⟩ := ry.get gy
    have eu : x1 = u := by
      have px : us[i]? = some x1 := by simpa using p1
      rw [hu] at px
      exact (Option.some.inj px).symm
    have ew : x2 = w' := by
      have px : ws[i]? = some x2 := by simpa using p2
      rw [hw] at px
      exact (Option.some.inj px).symm
    subst eu; subst ew
    have new : ObjOk X.prog X.w (upd H s.heap.objs.size (.tup [x, y])) h2 s.heap.objs.size (.tup [x, y]) :=
      ⟨show 2 ≤ sizeLine by decide, [x1, x2], .cons ru (.cons rw' .nil), ⟨_, hT2, rfl, _, rfl⟩⟩
    have J : Inv X pins σ (upd H s.heap.objs.size (.tup [x, y])) { s with heap := h2, toks := tk } :=
      I.turnedNew (t' := tk) (ch := [z, TI, TO, i1, i2]) (fun c o hb g => (sb.2 c fun e => hb (by simp [e])).trans (hk1 c o (fun e => hb (by simp [e])) (fun e => hb (by simp [e])) (fun e => hb (by simp [e])) (fun e => hb (by simp [e])) g)) fresh (Nat.le_refl _) new
    refine ⟨.ref s.heap.objs.size, _, J, rfl, ⟨_, x, y, rfl, I.hok.fresh (Nat.le_refl _), rfl, fun l hl => by rw [I.list_inj hl hx]; exact gx, fun l hl => by rw [I.tuple_inj hl hy]; exact gy⟩, ⟨z2, ?_, ⟨x1, x2, (sb.2 _ S.TOz).trans t1⟩, ?_, ?_⟩, fun c hcm => ?_⟩
    · exact (sb.2 _ S.TIz).trans (hk1 _ _ S.TIz S.TITO S.TIi1 S.TIi2 q2)
    · exact s1.1.at fun o g => (sb.2 _ (Ne.symm S.zi1)).trans g
    · exact s2.1.at fun o g => (sb.2 _ (Ne.symm S.zi2)).trans g
    · have hlt : c < s.heap.objs.size := by
        rcases cell5 hcm with e | e | e | e | e <;> rw [e]
        · exact zl
        · exact Heap.lt_size q2
        · exact Heap.lt_size q3
        · obtain ⟨_, e1, _⟩ := q4
          exact Heap.lt_size e1
        · obtain ⟨_, e2, _⟩ := q5
          exact Heap.lt_size e2
      rw [upd_ne (Nat.ne_of_lt hlt)]
      exact (fresh c hcm).1
  done := by
    intro X e1 e2 e3 hc i pins s σ H E I fresh st hg
    subst e1; subst e2; subst e3
    obtain ⟨q1, q2, ⟨x0, y0, q3⟩, q4, q5⟩ := st
    obtain ⟨xs, ys, hx, hy, l1, l2, hend⟩ := hg
    obtain ⟨us, rx, pl, _⟩ := I.list hx
    obtain ⟨ws, ry, ut, _⟩ := I.tuple hy
    have hT : s.heap.IsTuple b ws.toArray := ut
    have lx := rx.length
    have ly := ry.length
    have n1 : a ≠ i1 := fun q0 => by
      obtain ⟨o, g1, g2, _⟩ := pl.isList
      obtain ⟨o', g3, g4, _⟩ := q4
      rw [q0, g3] at g1
      cases g1
      exact types_ne (by decide) (g4.symm.trans g2)
    have n2 : b ≠ i2 := fun q0 => by
      obtain ⟨o, g1, g2, _⟩ := hT
      obtain ⟨o', g3, g4, _⟩ := q5
      rw [q0, g3] at g1
      cases g1
      exact types_ne (by decide) (g4.symm.trans g2)
    have hh := I.ok.hd hc
    have s1 : us.toArray.size = xs.length := by rw [List.size_toArray]; omega
    have s2 : ws.toArray.size = ys.length := by rw [List.size_toArray]; omega
    exact wpAny_pyNext_zipD2_end (A := X.A) S (Draws.list (A := X.A.in1) hh i1 a n1 us.toArray) (Draws.tuple (A := X.A.in1) hh i2 b n2 ws.toArray) q1 q2 q3 ⟨q4, pl.isList⟩ ⟨q5, hT⟩ (by omega) (by omega) (by omega)
      fun h' tk hk => ⟨rfl, I.turnedL (t' := tk) (ch := [z, TI, TO, i1, i2]) (fun c o hb g => hk c o (fun e => hb (by simp [e])) (fun e => hb (by simp [e])) (fun e => hb (by simp [e])) (fun e => hb (by simp [e])) g) fresh⟩
  self := fun A i s Q E st h => wpAny_pyIter_zip st.1 h
def iZipM (K : PySem.W.Frag) (ta : TA) : TI := fun σ H R => ta σ H fun vs H1 => ∃ (a b : Addr) (xs ys : List V), vs = [.ref a, .ref b] ∧ SqL K H1 a xs ∧ SqT K H1 b ys ∧ R (ItZ K a b) H1
theorem pi_zipM {X : Cx} {e e2 : Expr} {ta : TA} {p pos tp : Pos} {tgs : List Expr} {tk : Nat} (hg : Gl X "zip") (hm : X.mg "zip" = none) (ha : PA X [e, e2] ta)
    (hs : starEach [e, e2] X.env = (false, eval e X.env) :: starEach [e2] X.env := by rfl) (hpl : (backTo pos (starEach [e2] X.env)).any (·.1) = false := by rfl) :
    PI X (.Tuple tgs tk tp) (.Call (.Name "zip" p) [e, e2] [] pos) (iZipM X.K ta) := by
  refine ⟨fun pins s σ H R I h => ?_⟩
  refine Call_ (ld_blt I hg hm PyProof.Rows.boot_zip (PyProof.Rows.callWith_type1 (thn (ha.run pos pins s σ H _ I h) fun us s1 q => ?_) hs hpl))
  obtain ⟨vs, H1, I1, r1, a, b, xs, ys, rfl, hx, hy, q⟩ := q
  cases r1 with
  | cons ra rr =>
    cases rr with
    | cons rb rr =>
      cases rr
      cases ra
      cases rb
      obtain ⟨its, rv, pl, _⟩ := I1.list hx
      obtain ⟨its2, rv2, ut, _⟩ := I1.tuple hy
      have hT : s1.heap.IsTuple b its2.toArray := ut
      have al : a < s1.heap.objs.size := by obtain ⟨_, g, _⟩ := pl.isList; exact Heap.lt_size g
      have bl : b < s1.heap.objs.size := by obtain ⟨_, g, _⟩ := hT; exact Heap.lt_size g
      refine zip_begins2 (begins_list a its.toArray) (begins_tuple b its2.toArray) pl.isList hT fun h' hz hTI hTO h1 h2 hsz hk => wpAny_pyIter_zip hz ?_
      have I2 : Inv X pins σ H1 { s1 with heap := h' } := I1.kept (t' := s1.toks) hk
      have S : ZipSep2 (s1.heap.objs.size + 4) (s1.heap.objs.size + 2) (s1.heap.objs.size + 3) s1.heap.objs.size (s1.heap.objs.size + 1) [s1.heap.objs.size, a] [s1.heap.objs.size + 1, b] :=
        zip_sep2 (fp1 := [a]) (fp2 := [b]) (fun c hc => by rw [List.mem_singleton.mp hc]; exact al) (fun c hc => by rw [List.mem_singleton.mp hc]; exact bl)
      refine ⟨s1.heap.objs.size + 4, [s1.heap.objs.size + 4, s1.heap.objs.size + 2, s1.heap.objs.size + 3, s1.heap.objs.size, s1.heap.objs.size + 1], _, _, H1, rfl, I2, zipM_turns S,
        ⟨hz, hTI, ⟨_, _, hTO⟩, ⟨_, h1, rfl, rfl⟩, ⟨_, h2, rfl, rfl⟩⟩, fun c hc => ?_, q⟩
      have hle : s1.heap.objs.size ≤ c := by
        rcases cell5 hc with e | e | e | e | e <;> rw [e]
        · exact Nat.le_add_right _ _
        · exact Nat.le_add_right _ _
        · exact Nat.le_add_right _ _
        · exact Nat.le_refl _
        · exact Nat.le_add_right _ _
      exact I1.fpOk hle (I1.hok.fresh hle)
theorem walk_enumT {K : PySem.W.Frag} {a : Addr} {xs : List V} : Walk (ItE K a) xs.length (fun H => SqT K H a xs) (YPair (fun i => some (.int (i : Nat))) (fun i => xs[i]?)) where
  goes i H hi q := ⟨xs, xs[i], q, List.getElem?_eq_getElem hi⟩
  stops H q := ⟨xs, q, rfl⟩
  yields i H v H' _ q y := let ⟨T, x, h1, h2, h3, h4⟩ := y; ⟨T, .int (i : Nat), x, h1, h2, h3, rfl, h4 xs q⟩
theorem walk_zipM {K : PySem.W.Frag} {a b : Addr} {xs ys : List V} {n : Nat} (h1 : n = xs.length) (h2 : n = ys.length) : Walk (ItZ K a b) n (fun H => SqL K H a xs ∧ SqT K H b ys) (YPair (fun i => xs[i]?) (fun i => ys[i]?)) where
  goes i H hi q := ⟨xs, ys, xs[i]'(by omega), ys[i]'(by omega), q.1, q.2, List.getElem?_eq_getElem _, List.getElem?_eq_getElem _⟩
  stops H q := ⟨xs, ys, q.1, q.2, by omega, by omega, .inl h1⟩
  yields i H v H' _ q y := let ⟨T, x, z, e1, e2, e3, e4, e5⟩ := y; ⟨T, x, z, e1, e2, e3, e4 xs q.1, e5 ys q.2⟩
end Eo
/-! tuples whose object is known to bear no dict of its own: made, searched, made a dict of; in and == by data; xs[i] op= e; text * int -/
namespace Eo
open PySem PySem.Spec PyProof.Rows L2
/-- a tuple made here: read like each tuple, and known to bear no dict -/
def PlT (H : Hp) (a : Addr) (xs : List V) : Prop := ∃ o : Obj, H a = some (.frz o (.tup xs)) ∧ o.cls = .type "tuple" ∧ o.dict = none
theorem PlT.sq {K : PySem.W.Frag} {H : Hp} {a : Addr} {xs : List V} (h : PlT H a xs) : SqT K H a xs := let ⟨o, e, _⟩ := h; .inl (.inr ⟨o, e⟩)
section
variable {X : Cx}
def kTupF (K : PySem.W.Frag) (x : V) (H : Hp) (Q : VK) : Prop := ∃ (p : Addr) (xs : List V), x = .ref p ∧ SqL K H p xs ∧ ∀ (q : Addr) (o : Obj), o.cls = .type "tuple" → o.dict = none → H q = none → Q (.ref q) (upd H q (.frz o (.tup xs)))
theorem pe_tupleF {a : Expr} {ta : TE} {p pos : Pos} (hg : Gl X "tuple") (hm : X.mg "tuple" = none) (ha : PE X a ta) (na : starEach [a] X.env = (false, eval a X.env) :: starEach [] X.env := by rfl) :
    PE X (.Call (.Name "tuple" p) [a] [] pos) (tThen ta (kTupF X.K)) := by
  refine ⟨fun pins s σ H Q I h => ?_⟩
  refine Call_ (ld_blt I hg hm boot_tuple (PyProof.Rows.callWith_type1 (one_arg ha I h (fun v s2 x H2 I2 r q => ?_) na) na))
  obtain ⟨p, xs, rfl, hs, q⟩ := q
  cases r
  obtain ⟨its, rv, pl, hz⟩ := I2.list hs
  refine call_tuple_list pl.isList (fun h' hk => ?_) (by rw [List.size_toArray, ← rv.length]; exact hz)
  have I3 : Inv X pins σ H2 { s2 with heap := h' } := I2.kept (t' := s2.toks) hk
  have at1 : (h'.push { cls := .type "tuple", data := .seq its.toArray }).get? h'.objs.size = some { cls := .type "tuple", data := .seq its.toArray } := Heap.get?_push_size _ rfl
  have new : ObjOk X.prog X.w (upd H2 h'.objs.size (.frz { cls := .type "tuple", data := .seq its.toArray } (.tup xs))) (h'.push { cls := .type "tuple", data := .seq its.toArray }) h'.objs.size (.frz { cls := .type "tuple", data := .seq its.toArray } (.tup xs)) :=
    ⟨at1, hz, its, rv, ⟨_, at1, rfl, _, rfl⟩⟩
  exact ⟨.ref h'.objs.size, _, I3.laid (t' := s2.toks) (fun b o e => Heap.get?_push_of_some _ e) (Nat.le_refl _) new, rfl, q _ _ rfl rfl (I3.hok.fresh (Nat.le_refl _))⟩
/-- t.index(x), t such a tuple -/
def tIdxF (K : PySem.W.Frag) (to : TE) (t : TA) : TE := fun σ H Q => to σ H fun x H1 => ∃ p xs, x = .ref p ∧ PlT H1 p xs ∧ t σ H1 fun vs H2 => ∃ (ys : List Str) (z : Str) (j : Nat), vs = [.str z] ∧ SqT K H2 p (ys.map V.str) ∧ ys[j]? = some z ∧ (∀ m, m < j → ys[m]? ≠ some z) ∧ Q (.int (j : Nat)) H2
theorem pe_idxF {o e : Expr} {es : List Expr} {to : TE} {t : TA} {apos cpos : Pos} (ho : PE X o to) (ha : PA X (e :: es) t)
    (hbase : attributeBase o "index" X.env (eval o X.env) = eval o X.env := by rfl)
    (hfew : ((backTo cpos (starEach (e :: es) X.env)).all (fun x => !x.1) && (backToKw cpos (keywordEach [] X.env)).all (fun x => x.1.isSome) && decide ((e :: es).length + ([] : List Keyword).length + (if ([] : List Keyword).isEmpty then 0 else 1) < 30)) = true := by rfl)
    (hline : (apos.endLine == cpos.line) = true := by rfl) (hs : starEach (e :: es) X.env = (false, eval e X.env) :: starEach es X.env := by rfl) (hplain : (backTo cpos (starEach es X.env)).any (·.1) = false := by rfl) :
    PE X (.Call (.Attribute o "index" apos) (e :: es) [] cpos) (tIdxF X.K to t) := by
  refine ⟨fun pins s σ H Q I h => ?_⟩
  refine wpAny_Call_method_late hbase hfew hline rfl (thn (ho.run pins s σ H _ I h) fun v s1 ⟨x, H1, I1, r1, p, xs, ex, ⟨ob, hp, hcl, hdn⟩, q1⟩ => ?_)
  subst ex
  cases r1
  obtain ⟨hob, _⟩ := I1.hok p _ hp
  refine ⟨"tuple", "tuple.index", PySem.F.plainAttrs_tuple, PySem.F.slot_tuple_index, PySem.F.type_tuple_index, ⟨ob, hob, hcl⟩, fun a e2 => by cases e2; exact ⟨ob, hob, hdn⟩, ?_⟩
  have args := ha.run cpos pins s1 σ H1 _ I1 q1
  rw [hs] at args ⊢
  refine Calls.callWith_builtin (by show (false || (backTo cpos (starEach es X.env)).any (·.1)) = false; rw [hplain] <;> rfl) (Calls.evalArgs_plain (thn args fun us s2 ⟨vs, H2, I2, r2, ys, z, j, ev, hq, hj, hno, q2⟩ => ?_))
  subst ev
  exact mt_tup_index pins s2 σ H2 (.ref p) [.str z] (.ref p) us Q I2 rfl r2 ⟨p, ys, z, j, rfl, rfl, hq, hj, hno, q2⟩
theorem listed {α : Type} {P : Nat → α → Prop} : ∀ n, (∀ j, j < n → ∃ u, P j u) → ∃ us : List α, us.length = n ∧ ∀ j u, us[j]? = some u → P j u
  | 0, _ => ⟨[], rfl, fun j u e => by simp at e⟩
  | n + 1, h => by
    obtain ⟨us, hl, hu⟩ := listed n fun j hj => h j (Nat.lt_succ_of_lt hj)
    obtain ⟨w, hw⟩ := h n (Nat.lt_succ_self n)
    refine ⟨us ++ [w], by rw [List.length_append, hl]; rfl, fun j u e => ?_⟩
    by_cases hj : j < n
    · rw [List.getElem?_append_left (by omega)] at e
      exact hu j u e
    · rw [List.getElem?_append_right (by omega), hl] at e
      have : j - n = 0 := by
        have := (List.getElem?_eq_some_iff.mp e).1
        rw [List.length_singleton] at this
        omega
      rw [this] at e
      have ej : j = n := by omega
      subst ej
      have eu : w = u := Option.some.inj e
      rw [← eu]
      exact hw
/-- dict(t) of such a tuple of pairs -/
theorem call_dictF (hcalm : X.calm = true) : CallR X (.type "dict") (fun xs H Q => ∃ (a : Addr) (ps : List Addr) (kvs : List (Key × V)), xs = [.ref a] ∧ PlT H a (ps.map V.ref) ∧ Paired (fun p kv => SqT X.K H p [kV kv.1, kv.2]) ps kvs ∧
    ∀ p, H p = none → Q (.ref p) (upd H p (.dK (mergeK [] kvs)))) := by
  intro pins s σ H xs us Q I r q
  obtain ⟨a, ps, kvs, rfl, ⟨ob, hp, hcl, hdn⟩, hprs, q⟩ := q
  obtain ⟨u, rfl, rx⟩ := vals1 r
  cases rx
  obtain ⟨hob, hz, its, rv, o2, ho2, hc2, n, hd2⟩ := I.hok a _ hp
  rw [hob] at ho2
  cases ho2
  have ei := refs_at rv
  subst ei
  obtain ⟨prs, rel, hl, hpr⟩ := pairs_of I hprs
  have zp : ps.length ≤ sizeLine := by rw [List.length_map] at hz; exact hz
  obtain ⟨us, ul, hu⟩ := listed (P := fun j u => ∃ (q : Key × Value) (b : Addr), prs[j]? = some q ∧ ps[j]? = some b ∧ IsTup s.heap b #[u, q.2] ∧ keyIs q.1 u = true) prs.length fun j hj => by
    obtain ⟨b, u, e1, e2, e3⟩ := hpr j _ (List.getElem?_eq_getElem hj)
    exact ⟨u, prs[j], b, List.getElem?_eq_getElem hj, e1, e2, e3⟩
  have zl : (us.zip (prs.map (·.2))).length = ps.length := by
    rw [List.length_zip, List.length_map, ul, hl, Nat.min_self]
  have at1 : ∀ j k v, (us.zip (prs.map (·.2)))[j]? = some (k, v) → ∃ (q : Key × Value) (b : Addr), prs[j]? = some q ∧ ps[j]? = some b ∧ IsTup s.heap b #[k, v] ∧ keyIs q.1 k = true ∧ q.2 = v := fun j k v e => by
    obtain ⟨e1, e2⟩ := List.getElem?_zip_eq_some.mp e
    obtain ⟨q, b, g1, g2, g3, g4⟩ := hu j k e1
    rw [List.getElem?_map, g1] at e2
    have ev : q.2 = v := Option.some.inj e2
    exact ⟨q, b, g1, g2, by rw [← ev]; exact g3, g4, ev⟩
  have items : PairItems s.heap (ps.map Value.ref).toArray (fun j => ps.getD j 0) (us.zip (prs.map (·.2))) := by
    refine ⟨by rw [List.size_toArray, List.length_map, zl], fun j k v e => ?_⟩
    obtain ⟨q, b, g1, g2, g3, g4, g5⟩ := at1 j k v e
    have eb : ps.getD j 0 = b := by rw [List.getD_eq_getElem?_getD, g2]; rfl
    show (ps.map Value.ref).toArray[j]? = some (Value.ref (ps.getD j 0)) ∧ PairAt s.heap (ps.getD j 0) k v
    rw [eb]
    exact ⟨by simp [g2], .inl g3⟩
  refine call_dict_pairs (knd := mixKind X.prog X.w) (kvs := prs) (PairArg.tuple a (ps.map Value.ref).toArray (fun j => ps.getD j 0) (us.zip (prs.map (·.2)))) (I.ok.hd hcalm) ⟨⟨ob, n, hob, hcl, hdn, hd2⟩, items⟩ ⟨by rw [zl, hl], fun j k v e => ?_⟩ (by rw [zl]; exact zp) fun h' tk hd' hk => ?_
  · obtain ⟨q, b, g1, g2, g3, g4, g5⟩ := at1 j k v e
    refine ⟨q.1, ?_, g4⟩
    rw [g1, ← g5]
  · have hm : (s.heap.objs.size == sysModules) = false := beq_eq_false_iff_ne.mpr (Nat.ne_of_gt I.big)
    have hlen : (mergeK [] kvs).length ≤ sizeLine := by
      refine Nat.le_trans (length_mergeK kvs []) ?_
      rw [List.length_nil, Nat.zero_add, rel.length, hl]
      exact zp
    exact ⟨.ref s.heap.objs.size, _, I.laid (t' := tk) (fun b o e => hk b o (fun z => nomatch z) e) (Nat.le_refl _) (show ObjOk X.prog X.w _ _ _ (.dK (mergeK [] kvs)) from ⟨hlen, hm, merged [] prs, KV.merge rel .nil, hd'⟩), rfl, q _ (I.hok.fresh (Nat.le_refl _))⟩
/-- x in t, x not in t: data of any depth in a tuple -/
def rInTD (K : PySem.W.Frag) (neg : Bool) : R2 := fun x y H Q => ∃ d ds, Dp K H x d ∧ Dp K H y (.tuple ds) ∧ SeqAt.shaped d = true ∧ SeqAt.shaped (.tuple ds) = true ∧ Q (.bl (if neg then !ds.any fun z => PyData.eqv z d else ds.any fun z => PyData.eqv z d)) H
theorem op_notInTD (hu : X.A.units + 65 < cLine) : OpR X (compareOp .NotIn) (rInTD X.K true) := by
  intro pins s σ H x y v u Q I rx ry h
  obtain ⟨d, ds, hd, he, sd, se, q⟩ := h
  obtain ⟨as, r1⟩ := Dp.reads I d x v hd rx
  obtain ⟨bs, r2⟩ := Dp.reads I (.tuple ds) y u he ry
  exact SeqAt.notIn_tuple_reads r2 r1 (SeqAt.canLay_of_shaped se) (SeqAt.canLay_of_shaped sd) (room_in_shaped sd hu) ⟨.bl _, H, I, rfl, q⟩
/-- xs[i], by values -/
theorem get_list : PGet X (fun x y H Q => ∃ p xs j v, x = .ref p ∧ y = .int (j : Nat) ∧ SqL X.K H p xs ∧ xs[j]? = some v ∧ Q v H) := by
  intro pins s σ H o i ov iv Q I ro ri h
  obtain ⟨p, xs, j, v, rfl, rfl, hq, hj, q⟩ := h
  cases ro
  obtain ⟨t, rfl⟩ := ri
  obtain ⟨its, r, pl, hz⟩ := I.list hq
  obtain ⟨w, hw, rw'⟩ := r.get hj
  have hl := r.length
  have hjl := (List.getElem?_eq_some_iff.mp hj).1
  have hn := line63
  exact wpAny_getItem_list pl.isList (k := (j : Int)) (by omega) (by omega) (by simpa using hw) ⟨v, H, I, rw', q⟩
/-- one sign, eight times -/
def rMul8 : R2 := fun x y H Q => ∃ c : Nat, x = .str ⟨#[c]⟩ ∧ y = .int 8 ∧ Q (.str ⟨#[c, c, c, c, c, c, c, c]⟩) H
theorem op_mul8 : OpR X (binaryOp .Mult) rMul8 := by
  intro pins s σ H x y v u Q I rx ry h
  obtain ⟨c, rfl, rfl, q⟩ := h
  obtain ⟨t, rfl⟩ := rx
  obtain ⟨t', rfl⟩ := ry
  exact SB.mul ⟨by decide, fun _ _ => by show ¬ (((1 : Nat) : Int) > (2 ^ 63 - 1) / 8); decide, fun _ _ => by show Builtin.Str.tooLong (1 * 8) = false; decide⟩ fun t2 k => ⟨.str ⟨#[c, c, c, c, c, c, c, c]⟩, H, I.tok _, ⟨_, rfl⟩, q⟩
end
end Eo
/-! list(d.items()) of a dict whose keys are tuples -/
namespace Eo
open PySem PySem.Spec PyProof.Rows L2 L2.DX
section
variable {prog : Program} {w : World} {A : Around} {E : Value → Shared → Prop} {s : Shared} {r d : Addr} {es : Array DictEntry} {ep : Nat}
/-- list(view): the new list, its pairs behind it -/
theorem list_itemsT {Q : Value → Shared → Prop} (hh : A.handled = none) (hv : s.heap.IsItemsView r d) (hm : DT.Raw s.heap d es ep) (hn : es.size ≤ sizeLine)
    (hQ : ∀ h' tk acc c as, (∀ b o, s.heap.get? b = some o → h'.get? b = some o) → h'.get? s.heap.objs.size = some { cls := .type "list", dict := none, data := .seq acc c, slots := #[] } → as.length = es.size → DT.Made es s.heap.objs.size h' as →
      acc.toList = as.map Value.ref → Q (.ref s.heap.objs.size) { s with heap := h', toks := tk }) : wpAny (model prog w) A (call (.type "list") [.ref r]) Q E s := by
  refine callType_codes (Q₁ := fun obj s₁ => obj = .ref s.heap.objs.size ∧ s₁ = { s with heap := s.heap.push { cls := .type "list", data := .seq #[] } }) PySem.F.called_list (PySem.F.typeCall_list_1 _) PySem.F.entry_list_init (code_list_new _ ⟨rfl, rfl⟩) fun obj s₁ e1 => ?_
  obtain ⟨rfl, rfl⟩ := e1
  have at0 : (s.heap.push { cls := .type "list", data := .seq #[] }).get? s.heap.objs.size = some { cls := .type "list", data := .seq #[] } := Heap.get?_push_size _ rfl
  have rl : r < s.heap.objs.size := let ⟨_, ho, _⟩ := hv; Heap.lt_size ho
  have dl : d < s.heap.objs.size := hm.lt
  refine ⟨⟨_, at0, rfl⟩, PySem.F.args_list_init_2 _ _, ?_⟩
  show wpAny _ _ (do let old ← Builtin.List.listItems (.ref s.heap.objs.size); Builtin.List.listUpdate (.ref s.heap.objs.size) (fun _ => #[]); letGo old.toList.reverse; Builtin.List.listExtendWith (.ref s.heap.objs.size) (.ref r) .none) _ _ _
  refine wpAny_bind ?_
  unfold Builtin.List.listItems
  refine wpAny_bind (wpAny_seqItems at0 rfl (wpAny_pure ?_))
  show wpAny _ _ (updateSeq s.heap.objs.size (fun _ => #[]) >>= fun _ => letGo (#[] : Array Value).toList.reverse >>= fun _ => Builtin.List.listExtendWith (.ref s.heap.objs.size) (.ref r) .none) _ _ _
  refine wpAny_bind (wpAny_updateSeq at0 rfl (wpAny_bind (wpAny_letGo ?_)))
  have at1 := Heap.get?_update_self (Obj.mapSeq (fun _ => (#[] : Array Value))) at0 rfl
  have same : ∀ b o, s.heap.get? b = some o → ((s.heap.push { cls := .type "list", data := .seq #[] }).update s.heap.objs.size (Obj.mapSeq (fun _ => (#[] : Array Value)))).get? b = some o := fun b o e =>
    (Heap.get?_update_other _ _ (Ne.symm (Nat.ne_of_lt (Heap.lt_size e)))).trans (Heap.get?_push_of_some _ e)
  have size1 : s.heap.objs.size ≤ ((s.heap.push { cls := .type "list", data := .seq #[] }).update s.heap.objs.size (Obj.mapSeq (fun _ => (#[] : Array Value)))).objs.size := Nat.le_of_lt (Heap.lt_size at1)
  refine DT.extI (A := A.in1) (es := es) (ep := ep) hh (let ⟨o, ho, x⟩ := hv; ⟨o, same _ _ ho, x⟩) (hm.at' fun o e => same _ _ e) s.heap.objs.size (Nat.ne_of_gt rl) (Nat.ne_of_lt dl) .none _ at1 (fun h' tk acc c as hk hS hl hM hacc => ?_) hn
  exact ⟨rfl, hQ h' tk acc c as (fun b o e => hk b o (Nat.ne_of_lt (Heap.lt_size e)) (same b o e)) hS hl (hM.low size1) hacc⟩
end
section
variable {X : Cx}
def rListItemsT : List V → Hp → VK → Prop := fun vs H Q => ∃ (p a : Addr) (kvs : List (List Key × V)), vs = [.ref p] ∧ H p = some (itemsO p a) ∧ H a = some (.dT kvs) ∧
  ∀ (H' : Hp) (l : Addr) (ts : List Addr), (∀ b o, H b = some o → H' b = some o) → H l = none → H' l = some (.lst (ts.map V.ref)) →
    Paired (fun (t : Addr) (q : List Key × V) => ∃ b, H' t = some (.tup [.ref b, q.2]) ∧ H b = some (.tup (q.1.map kV))) ts kvs → Q (.ref l) H'
theorem pairedOf {α β : Type} {F : α → β → Prop} : ∀ {xs : List α} {ys : List β}, xs.length = ys.length → (∀ (j : Nat) x y, xs[j]? = some x → ys[j]? = some y → F x y) → Paired F xs ys
  | [], [], _, _ => .nil
  | [], _ :: _, h, _ => by cases h
  | _ :: _, [], h, _ => by cases h
  | x :: xs, y :: ys, h, k => .cons (k 0 x y rfl rfl) (pairedOf (Nat.succ.inj h) fun j a b e1 e2 => k (j + 1) a b e1 e2)
theorem cr_listItemsT (hc : X.calm = true) : CallR X (.type "list") rListItemsT := by
  intro pins s σ H xs us Q I r h
  obtain ⟨p, a, kvs, rfl, hp, ha, q⟩ := h
  obtain rfl := Vals.ref1 r
  have view : s.heap.IsItemsView p a := (show ObjOk X.prog X.w H s.heap p (itemsO p a) from I.hok p _ hp).1
  obtain ⟨z, hd, xs', rel, o, es, ep, ho, hx, hdat, hes, his, hn⟩ := dt_of I.hok ha
  have l1 : kvs.length = xs'.length := Paired.length rel
  have l2 : es.size = xs'.length := size_of_entries hes
  refine list_itemsT (es := es) (ep := ep) (I.ok.hd hc) view ⟨o, ho, hx, hdat⟩ (by omega) fun h' tk acc c as hk hS hl hM hacc => ?_
  have nd : as.Nodup := List.Pairwise.imp (fun h => Nat.ne_of_lt h) hM.rise
  have pr : ∀ (j : Nat) (t : Addr), as[j]? = some t → ∃ (e : List Key × V) (b : Addr) (v : Value), kvs[j]? = some e ∧ H b = some (.tup (e.1.map kV)) ∧ RelV e.2 v ∧ h'.get? t = some { cls := .type "tuple", data := .seq #[Value.ref b, v] } := by
    intro j t hj
    obtain ⟨en, he, hg⟩ := hM.pairs j t hj
    rw [entry_at hes j] at he
    obtain ⟨x, hxj, rfl⟩ := Option.map_eq_some_iff.mp he
    obtain ⟨e0, he0, r1, r2, r3⟩ := pget rel hxj
    exact ⟨e0, x.2.1, x.2.2, he0, r2, r3, hg⟩
  have I1 : Inv X pins σ H { s with heap := h', toks := tk } := I.kept hk
  have f0 : H s.heap.objs.size = none := I.hok.fresh (Nat.le_refl _)
  have notin : s.heap.objs.size ∉ as := fun hm => Nat.lt_irrefl _ (hM.above _ hm)
  have I2 : Inv X pins σ (upd H s.heap.objs.size (.lst (as.map V.ref))) { s with heap := h', toks := tk } := I1.take (h' := h') (t' := tk) (fun b ob _ e => e) (I.fpOk (Nat.le_refl _) f0)
    ⟨by rw [List.length_map]; omega, acc.toList, c, by rw [hacc]; exact LiI.vals_refs as, by rw [Array.toArray_toList]; exact hS⟩
  have key : ∀ (L : List Addr) (H1 : Hp), Inv X pins σ H1 { s with heap := h', toks := tk } → L.Nodup → (∀ t ∈ L, ∃ j : Nat, as[j]? = some t) → (∀ t ∈ L, H1 t = none) →
      ∃ H2, Inv X pins σ H2 { s with heap := h', toks := tk } ∧ (∀ b u, H1 b = some u → H2 b = some u) ∧ ∀ (j : Nat) (t : Addr), t ∈ L → as[j]? = some t → ∃ e b, kvs[j]? = some e ∧ H2 t = some (.tup [.ref b, e.2]) ∧ H b = some (.tup (e.1.map kV)) := by
    intro L
    induction L with
    | nil => exact fun H1 J _ _ _ => ⟨H1, J, fun _ _ e => e, fun _ _ hm => nomatch hm⟩
    | cons t L ih =>
      intro H1 J ndL hin hnone
      rw [List.nodup_cons] at ndL
      obtain ⟨j, hj⟩ := hin t List.mem_cons_self
      obtain ⟨e, b, v, e1, e2, e3, e4⟩ := pr j t hj
      have ft := hnone t List.mem_cons_self
      have lo : s.heap.objs.size ≤ t := Nat.le_of_lt (hM.above t (List.mem_of_getElem? hj))
      have J2 : Inv X pins σ (upd H1 t (.tup [.ref b, e.2])) { s with heap := h', toks := tk } := J.take (h' := h') (t' := tk) (fun b ob _ e => e) (I.fpOk lo ft)
        ⟨show 2 ≤ sizeLine by decide, [.ref b, v], .cons rfl (.cons e3 .nil), ⟨_, e4, rfl, _, rfl⟩⟩
      obtain ⟨H2, J3, g, all⟩ := ih _ J2 ndL.2 (fun t' ht => hin t' (List.mem_cons_of_mem _ ht)) fun t' ht => by
        rw [upd_ne (show t' ≠ t from fun q0 => ndL.1 (by rw [← q0]; exact ht))]
        exact hnone t' (List.mem_cons_of_mem _ ht)
      refine ⟨H2, J3, fun b' u hu => g b' u (by rw [upd_ne (ne_of_none hu ft)]; exact hu), fun j' t' ht hj' => ?_⟩
      rcases List.mem_cons.mp ht with rfl | ht
      · have ej : j' = j := by
          have h1 := (List.getElem?_eq_some_iff.mp hj').1
          have h2 := (List.getElem?_eq_some_iff.mp hj).1
          exact (List.getElem?_inj h1 nd).mp (hj'.trans hj.symm)
        subst ej
        exact ⟨e, b, e1, g _ _ upd_same, e2⟩
      · exact all j' t' ht hj'
  obtain ⟨H2, J, g, all⟩ := key as _ I2 nd (fun t ht => List.mem_iff_getElem?.mp ht) fun t ht => by
    rw [upd_ne (show t ≠ s.heap.objs.size from fun q0 => notin (by rw [← q0]; exact ht))]
    exact I.hok.fresh (Nat.le_of_lt (hM.above t ht))
  refine ⟨.ref s.heap.objs.size, H2, J, rfl, q H2 _ as (fun b u hu => g b u (by rw [upd_ne (ne_of_none hu f0)]; exact hu)) f0 (g _ _ upd_same) (pairedOf (by omega) fun j t e ht he => ?_)⟩
  obtain ⟨e', b, g1, g2, g3⟩ := all j t (List.mem_of_getElem? ht) ht
  rw [he] at g1
  cases g1
  exact ⟨b, g2, g3⟩
end
end Eo
/-! d.setdefault(t, x), t a tuple; len(set(t)); -/
namespace Eo
open PySem PySem.Spec PyProof.Rows L2 L2.DX
section
variable {X : Cx} {o e f : Expr} {td ty tx : TE} {apos cpos : Pos}
def tDSetT (td ty tx : TE) : TE := fun σ H Q => td σ H fun x H1 => ∃ a, x = .ref a ∧ IsD H1 a ∧ ty σ H1 fun y H2 => tx σ H2 fun z H3 => ∃ (kvs : List (List Key × V)) (k : List Key) (b : Addr), H3 a = some (.dT kvs) ∧ y = .ref b ∧ H3 b = some (.tup (k.map kV)) ∧ kvs.length < sizeLine ∧
  (∀ v, valV kvs k = some v → Q v H3) ∧ (valV kvs k = none → Q z (upd H3 a (.dT (putK kvs k z))))
theorem pe_dsetT (hu : X.A.units + 1 < cLine) (ho : PE X o td) (he : PE X e ty) (hf : PE X f tx) (m : M2 X o "setdefault" apos e f cpos) : PE X (.Call (.Attribute o "setdefault" apos) [e, f] [] cpos) (tDSetT td ty tx) := by
  refine ⟨fun pins s σ H Q I h => ?_⟩
  refine wpAny_Call_method m.base m.few m.line PySem.F.plainAttrs_dict PySem.F.slot_dict_setdefault PySem.F.type_dict_setdefault (thn (ho.run pins s σ H _ I h) fun u s1 ⟨x, H1, I1, rx, a, ex, d, q1⟩ => ?_)
  subst ex
  obtain rfl : u = Value.ref a := rx
  obtain ⟨t1, t2, _⟩ := isD_at I1 d
  refine ⟨t1, t2, ?_⟩
  rw [m.trees]
  refine Calls.callWith_builtin rfl (Calls.evalArgs_plain (Calls.spliced_cons (thn (he.run pins s1 σ H1 _ I1 q1) fun iv s2 ⟨y, H2, I2, ry, q2⟩ =>
    Calls.spliced_cons (thn (hf.run pins s2 σ H2 _ I2 q2) fun fv s3 ⟨z, H3, I3, rz, kvs, k, b, ea, ey, eb, hl, q3, q4⟩ => Calls.spliced_nil ?_))))
  subst ey
  obtain rfl : iv = Value.ref b := ry
  obtain ⟨zl, hd, xs, rel, dd⟩ := dt_of I3.hok ea
  have hz : xs.length ≤ sizeLine := by rw [← Paired.length rel]; exact zl
  have rv := rel.val k
  refine call_setdefault_heap (hsz := hz) (tupleKind_room_in1 hu) (key_of I3.hok eb) hd dd (fun p hp => ?_) fun hn h' dd' hs => ?_
  · rw [hp] at rv
    cases ev : valV kvs k with
    | none =>
      rw [ev] at rv
      exact (show False from rv).elim
    | some v0 =>
      rw [ev] at rv
      exact ⟨v0, H3, I3.tok _, rv, q3 v0 ev⟩
  · rw [hn] at rv
    have ev : valV kvs k = none := by
      cases ev : valV kvs k with
      | none => rfl
      | some v0 =>
        rw [ev] at rv
        exact (show False from rv).elim
    obtain ⟨q, es, ep, hq, h2, h3, h4, _, h5⟩ := dd'
    have hl2 : (putK kvs k z).length ≤ sizeLine := by
      have := length_putK kvs k z
      omega
    have J : Inv X pins σ (upd H3 a (.dT (putK kvs k z))) { s3 with heap := h', toks := s3.toks + (tupleKind (mixKind X.prog X.w)).draws k } :=
      d_write I3 (by rw [ea]; trivial) hs ⟨q, hq⟩ ⟨hl2, hd, _, (rel.put k eb rz).keeps fun c ys ec => by rw [upd_ne (ne_of ec ea fun z => nomatch z)]; exact ec, q, es, ep, hq, h2, h3, h4, h5⟩
    exact ⟨z, _, J, rz, q4 ev⟩
/-- len(set(t)), t a tuple of unlike ints -/
def tLenSetT (K : PySem.W.Frag) (ta : TE) : TE := fun σ H Q => ta σ H fun x H1 => ∃ (l : Addr) (ns : List Int), x = V.ref l ∧ SqT K H1 l (ns.map V.int) ∧ ns.Nodup ∧ ns.length ≤ 4000 ∧ Q (.int (ns.length : Nat)) H1
theorem pe_lenSetT {a : Expr} {ta : TE} {p p2 q pos : Pos} (hg : Gl X "len") (hm : X.mg "len" = none) (hg2 : Gl X "set") (hm2 : X.mg "set" = none) (ha : PE X a ta) (hc : X.calm = true := by rfl)
    (na : starEach [a] X.env = (false, eval a X.env) :: starEach [] X.env := by rfl) : PE X (.Call (.Name "len" p) [.Call (.Name "set" p2) [a] [] q] [] pos) (tLenSetT X.K ta) := by
  refine ⟨fun pins s σ H Q I h => ?_⟩
  refine Call_ (ld_blt I hg hm boot_len (PyProof.Rows.callWith_builtin1 (PyProof.Rows.args_cons ?_ rfl) rfl rfl))
  refine Call_ (ld_blt I hg2 hm2 boot_set (PyProof.Rows.callWith_type1 (PyProof.Rows.args_cons (thn (ha.run pins s σ H _ I h) fun v s1 ⟨x, H1, I1, r1, q1⟩ => PyProof.Rows.args_nil ?_) na) na rfl))
  obtain ⟨l, ns, rfl, hq, hnd, hl, q1⟩ := q1
  cases r1
  obtain ⟨its, r, ut, hz⟩ := I1.tuple hq
  have hT : s1.heap.IsTuple l its.toArray := ut
  refine call_set_tupI ns (I1.ok.hd hc) hT (by simpa using RZ.intsAre_vals r) (by unfold scanBound; omega) fun h' tk c hS hc' hk => ?_
  refine PyProof.Rows.args_nil ?_
  obtain ⟨ob, es, ep, t, ho, hex, hd, hgood, hnod, hmem, hsz, hf, hn, _⟩ := hS
  have I2 : Inv X pins σ H1 { s1 with heap := h', toks := tk } := I1.kept fun b o e => hk b o e
  have ec : es.size = ns.length := by
    have a1 : es.size = (es.toList.map keyOf).length := by rw [List.length_map, Array.length_toList]
    have a2 := sub_len (l := es.toList.map keyOf) (m := ns) hnod fun x hx => of_decide_eq_true ((hmem x).mpr hx)
    have a3 := sub_len (l := ns) (m := es.toList.map keyOf) hnd fun x hx => (hmem x).mp (decide_eq_true hx)
    omega
  exact call_len_set ho hex hd hf (by omega) ⟨.int ns.length, H1, I2.tok _, ⟨_, by rw [ec]⟩, q1⟩
end
end Eo
/-! set(xs) of a list of ints, ready to be sorted -/
namespace Eo
open PySem PySem.Spec PyProof.Rows L2 L2.DX
section
variable {P : Program} {w : World} {A : Around} {E : Value → Shared → Prop} {s : Shared}
/-- the set as it is made -/
abbrev newSet (w : World) : Obj := { cls := .type "set", dict := none, data := .set #[] 0 (.fresh 0 0 (!w.params.followText "set-order")) }
set_option maxHeartbeats 8000000 in
theorem set_of_list {l : Addr} {items : Array Value} (ns : List Int) {Q : Value → Shared → Prop} (hh : A.handled = none) (hl : s.heap.IsList l items) (hit : IntsAre items.toList ns) (hb : ns.length + 1 < scanBound)
    (h : ∀ (h' : Heap) (tk c : Nat), SetR w h' s.heap.objs.size (fun j => decide (j ∈ ns)) c → (∀ b o, s.heap.get? b = some o → h'.get? b = some o) → Q (.ref s.heap.objs.size) { s with heap := h', toks := tk }) :
    wpAny (model P w) A (call (.type "set") [.ref l]) Q E s := by
  have sz : items.size = ns.length := by rw [← Array.length_toList]; exact IntsAre.length hit
  obtain ⟨c, tl, hmro⟩ := F.called_set.mro
  have made0 := F.called_set.made
  have sub0 := F.called_set.sub
  have nt0 := F.called_set.notType
  have cr0 := F.called_set.canCreate
  have ct0 := F.typeCall_set_1 (.ref l)
  have li0 := F.called_set.init.lookup
  have bi0 := F.called_set.init.bind (.ref s.heap.objs.size)
  refine wpAny_call (codeAny_of_tree ?_)
  show wpAny _ _ (callAny (.type "set") _) _ _ _
  refine wpAny_pure ⟨Code.quiet_builtin _ (by decide +kernel), codeAny_builtin F.entry_type_call ?_⟩
  rw [Around.under_plain (weight_type_call_type "set" [.ref l] []) rfl]
  repeat (any_goals (first | assumption | wp_step))
  refine codeAny_mono (code_set_led1 (.ref l) (E := E) (Q₁ := fun obj s₁ => obj = .ref s.heap.objs.size ∧ s₁ = { s with heap := s.heap.push (newSet w) }) ⟨rfl, rfl⟩) fun r s₁ hr => ?_
  match r, hr with
  | .error e, hr => exact hr
  | .ok (.ret obj), hr =>
    obtain ⟨rfl, rfl⟩ := hr
    have at0 : (s.heap.push (newSet w)).get? s.heap.objs.size = some (newSet w) := Heap.get?_push_size _ rfl
    have ty0 : Shared.TypeIs { s with heap := s.heap.push (newSet w) } (.ref s.heap.objs.size) "set" := ⟨_, at0, rfl⟩
    repeat (any_goals (first | assumption | wp_step))
    refine codeAny_mono (codeAny_call_builtin (R := wants (fun r s₂ => r = .none ∧ ∃ h' tk c, s₂ = { s with heap := h', toks := tk } ∧ SetR w h' s.heap.objs.size (fun j => decide (j ∈ ns)) c ∧ (∀ b o, s.heap.get? b = some o → h'.get? b = some o)) E)
      F.called_set.init.plain F.entry_set_init (check_set_init_1 ty0 ?_)) fun r₂ s₂ hr₂ => ?_
    · obtain ⟨ol, hol, hcl, nl, hdl⟩ := hl
      obtain ⟨ocls, odict, odata, oslots⟩ := ol
      simp only at hcl hdl
      subst hcl; subst hdl
      have at1 : (s.heap.push (newSet w)).get? l = some { cls := .type "list", dict := odict, data := .seq items nl, slots := oslots } := Heap.get?_push_of_some _ hol
      have n1 := F.sub_list_set
      have n2 := F.sub_list_frozenset
      have n3 : (Value.type "list" == Value.type "dict") = false := by decide
      have ls : (s.heap.push (newSet w)).IsList l items := ⟨_, at1, rfl, nl, rfl⟩
      unfold Builtin.«set.__init__» noKeywords Builtin.Frozenset.updateFrom
      generalize hPI : pyIter = PI
      wp_walk
      subst hPI
      refine wpAny_pyIter_list ls (wpAny_bind (wpAny_runValue ?_))
      have ll : l < s.heap.objs.size := Heap.lt_size hol
      have hh3 : A.in1.in1.in1.handled = none := hh
      have zI : (s.heap.push (newSet w)).objs.size = s.heap.objs.size + 1 := Heap.size_push ..
      have lI : l ≠ (s.heap.push (newSet w)).objs.size := by rw [zI]; exact Nat.ne_of_lt (Nat.lt_succ_of_lt ll)
      have notin : s.heap.objs.size ∉ [(s.heap.push (newSet w)).objs.size, l] := fun hm => by
        rcases List.mem_cons.mp hm with e | hm
        · rw [zI] at e
          exact Nat.succ_ne_self _ e.symm
        · rw [List.mem_singleton] at hm
          exact Nat.ne_of_gt ll hm
      have vals : ∀ (i : Nat) (v : Value), items[i]? = some v → ∃ k t, ns[i]? = some k ∧ v = .int k t := fun i v hv => by
        have hi : i < ns.length := by rw [← sz]; exact (Array.getElem?_eq_some_iff.mp hv).1
        obtain ⟨t, e⟩ := IntsAre.int_at hit i v (by rw [Array.getElem?_toList]; exact hv)
        exact ⟨ns[i], t, List.getElem?_eq_getElem hi, by rw [e, List.getD_eq_getElem?_getD, List.getElem?_eq_getElem hi]; rfl⟩
      refine set_update_ints ((Walks.list hh3 _ l lI items).toS) s.heap.objs.size notin ns sz hb vals (items.size - 0) 0 _ (by omega) (Nat.zero_le _) ⟨⟨_, Heap.get?_push_size _ rfl, rfl, rfl⟩, (ls.push _)⟩ ⟨0, Nat.le_refl 0, setR_new_at (Heap.get?_push_of_some _ at0)⟩ ?_
      intro s' c' hm hc' hS'
      obtain ⟨h', g2, d', tk', os'⟩ := s'
      have eg : g2 = s.gens := hm.gens
      have ed : d' = s.drawn := hm.drawn
      have eo : os' = s.os := hm.os
      subst eg; subst ed; subst eo
      show wpAny _ _ _ _ _ _
      refine wpAny_pure ?_
      show wpAny _ _ (ret Value.none) _ _ _
      refine wpAny_pure ⟨rfl, h', tk', c', rfl, hS', fun b o e => ?_⟩
      have lb : b < s.heap.objs.size := Heap.lt_size e
      refine hm.heap b o (fun hm => ?_) (Heap.get?_push_of_some _ (Heap.get?_push_of_some _ e))
      rcases List.mem_cons.mp hm with e1 | hm
      · exact Nat.ne_of_lt lb e1
      · rw [List.mem_singleton.mp hm, zI] at lb
        exact absurd lb (Nat.not_lt.mpr (Nat.le_succ _))
    · match r₂, hr₂ with
      | .error e, hr₂ => exact hr₂
      | .ok (.ret v), hr₂ =>
        obtain ⟨rfl, h', tk, c', rfl, hS', hk⟩ := hr₂
        repeat (any_goals (first | assumption | wp_step))
        exact h _ _ _ hS' hk
end
section
variable {X : Cx}
def rSetL (K : PySem.W.Frag) (w : World) : List V → Hp → VK → Prop := fun vs H Q => ∃ (l : Addr) (ns : List Int), vs = [.ref l] ∧ SqL K H l (ns.map V.int) ∧ ns.Nodup ∧ ns.length ≤ 4000 ∧ ∀ p, H p = none → Q (.ref p) (upd H p (SetO w p (fun j => decide (j ∈ ns)) ns.length))
theorem cr_setL (hc : X.calm = true) : CallR X (.type "set") (rSetL X.K X.w) := by
  intro pins s σ H xs us Q I r h
  obtain ⟨l, ns, rfl, hq, hnd, hl, q⟩ := h
  obtain rfl := Vals.ref1 r
  obtain ⟨its, rv, pl, hz⟩ := I.list hq
  refine set_of_list ns (I.ok.hd hc) pl.isList (by simpa using RZ.intsAre_vals rv) (by unfold scanBound; omega) fun h' tk c hS hk => ?_
  have I2 : Inv X pins σ H { s with heap := h', toks := tk } := I.kept hk
  have f0 : H s.heap.objs.size = none := I.hok.fresh (Nat.le_refl _)
  have ec : c = ns.length := by
    obtain ⟨ob, es, ep, t, ho, hex, hd, hgood, hnod, hmem, hsz, hf, hn, _⟩ := id hS
    have a1 : es.size = (es.toList.map keyOf).length := by rw [List.length_map, Array.length_toList]
    have a2 := sub_len (l := es.toList.map keyOf) (m := ns) hnod fun x hx => of_decide_eq_true ((hmem x).mpr hx)
    have a3 := sub_len (l := ns) (m := es.toList.map keyOf) hnd fun x hx => (hmem x).mp (decide_eq_true hx)
    omega
  rw [ec] at hS
  exact ⟨.ref s.heap.objs.size, _, I2.take (h' := h') (t' := tk) (fun b ob _ e => e) (I.fpOk (Nat.le_refl _) f0) (setO_new hS), rfl, q _ f0⟩
end
end Eo
/-! repr(list of ints): it asks that no repr is under way (guards); so promises that know that -/
namespace Eo
open PySem PySem.Spec PyProof.Rows L2 L2.DX
/-- a promise that holds where no repr is under way -/
structure FnG (P : Program) (w : World) (K : PySem.W.Frag) (mg : Str → Option Value) (base : Heap) (CX : CXT) (k : Nat) (f : Addr) (fd : FuncData) (ps : List Str) (sp : Sp) : Prop where
  len : ∀ vs H Q E, sp vs H Q E → vs.length = ps.length
  run : ∀ (A : Around), A.guards = some [] → ∀ (outer : List Env) (s : Shared) (H : Hp) (args : Args) (us : List Value) (vs : List V) (Q : VK) (E : XK), Room k A → Env0 P w K mg base A outer s H → BindsTo s fd args (ps.zip us) → Vals vs us → sp vs H Q E →
    codeAny (model P w) A (.call (.ref f) args) (CR CX outer P w H s Q E) s
section
variable {P : Program} {w : World} {K : PySem.W.Frag} {mg : Str → Option Value} {base : Heap}
theorem okG {x qual : Str} {st : Stmt} {f : Addr} {fd : FuncData} {N ps : List Str} {k : Nat} {sp : Sp} (F : Fun K x qual st f fd) (S : FnScope N ps (defScope st)) (len : ∀ vs H Q E, sp vs H Q E → vs.length = ps.length)
    (body : ∀ (cdv : Value) (A : Around) (outer : List Env) (s : Shared) (H : Hp) (vs : List V) (Q : VK) (E : XK), A.guards = some [] → Room k (A.deeper (envOfC qual (defScope st) s.heap.objs.size f cdv)) → sp vs H Q E →
      ∃ t, PSs (cxOf CX0 P w K mg base N qual (defScope st) f cdv A outer s H E).nox (defBody st) t ∧ t { nx := fun _ H' => Q .non H', rt := Q } (start N vs) H) : FnG P w K mg base CX0 (k + 1) f fd ps sp := by
  obtain ⟨oc, od, kV, doc, pm, an, cdv, ct, osl, rfl, lk, cr⟩ := F.ex
  refine ⟨len, fun A gd outer s H args us vs Q E hr e0 hb r hsp => ?_⟩
  have lv := len _ _ _ _ hsp
  have KI : K.In s.heap := e0.mod.kin.keeps fun b o e => (e0.bs b o e).1
  refine codeAny_call_function hr.depth (KI _ _ lk) rfl S.co S.gen rfl (PySem.W.codeRec_of KI cr) (hb _ _ _ _ ?_)
  refine wpAny_newFunctionEnv_cells S.kind (fun ⟨n, v⟩ hy => ?_) fun env he s1 x => ?_
  · exact (S.par n (List.of_mem_zip hy).1).imp id fun q => ⟨q, PySem.W.cellsFrom_some _ _ _ (.inl q)⟩
  subst he
  refine ⟨(e0.mod.nolimit.keeps fun b o e => (e0.bs b o e).1).keeps x.toInCall.keep, codeAny_func ?_⟩
  obtain ⟨t, ht, hq⟩ := body cdv A outer s H vs Q E gd (hr.deeper _) hsp
  have J := inv_start (CX := CX0) (P := P) (w := w) (K := K) (mg := mg) (base := base) (E := E) (cd := cdv) S hr.hd e0 lv r x
  refine wpAny_mono (ht.nox.run [] s1 (start N vs) H _ J hq) (fun fl s' hs => ?_) fun e s' hs => hs
  match fl, hs with
  | .ret u, ⟨v, σ', H', J, rv, q⟩ => exact ⟨v, H', J.os, J.bare, J.base, J.hok, rv, q⟩
  | .next, ⟨σ', H', J, q⟩ => exact ⟨V.non, H', J.os, J.bare, J.base, J.hok, rfl, q⟩
  | .brk, ⟨_, _, _, q⟩ => exact False.elim q
  | .cont, ⟨_, _, _, q⟩ => exact False.elim q
end
section
variable {X : Cx} {CX : CXT} {k : Nat} {f : Addr} {fd : FuncData} {ps : List Str} {sp : Sp} {E : XK} {x : Str} {p pos : Pos} {e : Expr} {es : List Expr} {t : TA}
theorem pe_callG (F : FnG X.prog X.w X.K X.mg X.base CX k f fd ps sp) (gd : X.A.guards = some []) (hr : Room k X.A) (hg : Gl X x) (hm : X.mg x = some (.ref f)) (hk : PySem.W.keepIn X.K (.ref f) = true) (hb : Binds X.K fd ps []) (hx : Passes CX X E)
    (ha : PA X (e :: es) t) (hdb : (x == ("__debug__" : Str)) = false := by decide) (he : starEach (e :: es) X.env = (false, eval e X.env) :: starEach es X.env := by rfl) (hpl : (backTo pos (starEach es X.env)).any (·.1) = false := by rfl) :
    PE X (.Call (.Name x p) (e :: es) [] pos) (tCall sp [] E t) := by
  refine ⟨fun pins s σ H Q I h => ?_⟩
  refine wpAny_Call_Name_kw (ld_glob I hg hm (PySem.W.callWith_K (h₀ := X.base) I.ok.mod.kin hk (thn (ha.run pos pins s σ H _ I h) fun us s1 ⟨vs, H1, I1, r, q⟩ => ⟨I1.kIn, ?_⟩) he hpl) hdb)
  have lv := F.len _ _ _ _ q
  have r0 : Vals (vs ++ []) (us ++ []) := r.append .nil
  refine wpAny_call (codeAny_mono (F.run X.A gd X.stack s1 H1 ⟨us, []⟩ (us ++ []) (vs ++ []) Q E hr I1.env0 (hb s1 us I1.kIn (by rw [← r0.length]; exact lv)) r0 q) fun r' s' hq => ?_)
  match r', hq with
  | .error e', hq => exact hx pins σ H1 s1 e' s' I1 hq
  | .ok (.ret u), hq => exact I1.after hq
  | .ok .next, hq => exact False.elim hq
  | .ok .brk, hq => exact False.elim hq
  | .ok .cont, hq => exact False.elim hq
/-- repr(xs) -/
def rReprL (K : PySem.W.Frag) : List V → Hp → VK → Prop := fun vs H Q => ∃ (a : Addr) (ns : List Int), vs = [.ref a] ∧ SqL K H a (ns.map V.int) ∧ (PyData.list (ns.map PyData.int)).showable = true ∧ (PyData.list (ns.map PyData.int)).shown.length ≤ sizeLine ∧ Q (.str (PyData.list (ns.map PyData.int)).shown) H
theorem dp_ints {K : PySem.W.Frag} {H : Hp} : ∀ ns : List Int, DpAll K H (ns.map V.int) (ns.map PyData.int)
  | [] => .nil
  | n :: ns => .cons (.int n) (dp_ints ns)
theorem depth_ints : ∀ ns : List Int, PyData.depthAll (ns.map PyData.int) = 0
  | [] => by simp [PyData.depthAll]
  | n :: ns => by simp [PyData.depthAll, PyData.depth, depth_ints ns]
theorem nodict_ints : ∀ ns : List Int, PyData.hasDictAll (ns.map PyData.int) = false
  | [] => by simp [PyData.hasDictAll]
  | n :: ns => by simp [PyData.hasDictAll, PyData.hasDict, nodict_ints ns]
theorem cr_reprL (gd : X.A.guards = some []) (hu : X.A.units + 64 < cLine) : CallR X (.builtin "repr") (rReprL X.K) := by
  intro pins s σ H xs us Q I r h
  obtain ⟨a, ns, rfl, hq, hs, hl, q⟩ := h
  obtain rfl := Vals.ref1 r
  obtain ⟨as, r1⟩ := Dp.reads I (.list (ns.map PyData.int)) (.ref a) (.ref a) (.lst hq (dp_ints ns)) rfl
  have dd : (PyData.list (ns.map PyData.int)).depth ≤ 1 := by simp [PyData.depth, depth_ints]
  exact repr_of_reads' r1 hs (PyData.noDict_hsm (by simp [PyData.hasDict, nodict_ints])) gd (by omega) (fun _ _ e => e) (fun h' u tk hk => ⟨.str _, H, I.kept hk, ⟨_, rfl⟩, q⟩) hl
end
end Eo
/-! the law's own call, from a promise that knows that no repr is under way -/
namespace Eo
open PySem PySem.Spec PyProof.Rows L2 L2.DX
section
variable {P : Program} {w : World} {K : PySem.W.Frag} {mg mb : Str → Option Value} {CX : CXT} {k : Nat} {fa a : Addr} {fd : FuncData} {x : Str} {sp : Sp} {s : Shared} {vs : List Value} {ns : List Int}
/-- from a heap in which at most the script is tracked -/
theorem enterG {H : Hp} (KX : K.In s.heap) (hns : s.heap.Ns mainGlobals mg) (hb : s.heap.Ns builtinsNs mb) (hbb : ∀ x : Str, x ≠ "__name__" → mb x = bootBuiltins x) (hlim : s.heap.NoLimit) (hg : s.gens = #[])
    (ha : s.heap.get? a = some { cls := .type "list", data := .seq vs.toArray }) (hr : Room k callerA)
    (F : ∀ base : Heap, K.In base → base.Ns mainGlobals mg → FnG P w K mg base CX k fa fd [x] sp) (hbind : ∀ (s : Shared) (u : Value), BindsTo s fd ⟨[u], []⟩ [(x, u)])
    (hCX : ∀ H e s', CX [] H s (fun _ _ _ => False) e s' → False) (hO : Only H) (hsp : sp [.ref a] H (fun v _ => v = .bl true) fun _ _ _ => False) (ok : HOk P w H s.heap)
    (lone : ∀ b u, H b = some u → b = a) (free : ∀ u, H a = some u → K.lookup a = none) :
    codeAny (model P w) callerA (.call (.ref fa) ⟨[.ref a], []⟩) (fun r s' => r = .ok (.ret (.bool true)) ∧ OldK s.heap s'.heap ∧ s'.os = s.os ∧ AllBare s'.gens) s := by
  -- what is no list of values is not tracked
  have offD : ∀ {b : Addr} {o : Obj}, s.heap.get? b = some o → (b = a → False) → (hidT s.heap H).get? b = some o := fun {b o} e n => hidT_get e (by
    cases q : H b with
    | none => rfl
    | some u => exact (n (lone b u q)).elim)
  have notA : ∀ {b : Addr} {o : Obj} {es : Array DictEntry} {ep : Nat}, s.heap.get? b = some o → o.data = .dict es ep → b = a → False := fun {b o es ep} e d q => by
    subst q
    rw [ha] at e
    cases e
    cases (show Data.seq vs.toArray _ = Data.dict es ep from d)
  have nsB : ∀ {b : Addr} {m : Str → Option Value}, s.heap.Ns b m → (hidT s.heap H).Ns b m := fun {b m} ⟨o, es, ep, e, d, r⟩ => ⟨o, es, ep, offD e (notA e d), d, r⟩
  have kB : K.In (hidT s.heap H) := fun b o e => hidT_get (KX b o e) (by
    cases q : H b with
    | none => rfl
    | some u =>
      have q1 := lone b u q
      subst q1
      have q2 := free u q
      rw [e] at q2
      cases q2)
  have M : Mod K mg (hidT s.heap H) := ⟨kB, nsB hns, ⟨mb, nsB hb, hbb⟩, let ⟨mc, h1, h2⟩ := hlim; ⟨mc, nsB h1, h2⟩⟩
  have E0 : Env0 P w K mg (hidT s.heap H) callerA [] s H := ⟨rfl, M, fun b o e => of_hidT e, Nat.le_of_eq (hidT_size _ _), trivial, (fun b hb => nomatch (show b ∈ ([] : List Addr) from hb)), ok, .of_eq hg⟩
  refine codeAny_mono ((F _ kB (nsB hns)).run callerA rfl [] s H ⟨[.ref a], []⟩ [.ref a] [.ref a] _ _ hr E0 (hbind s (.ref a)) (.cons rfl .nil) hsp) fun r s' h => ?_
  match r, h with
  | .error e, h => exact (hCX H e s' h).elim
  | .ok .next, h => exact False.elim h
  | .ok .brk, h => exact False.elim h
  | .ok .cont, h => exact False.elim h
  | .ok (.ret u), ⟨v, H', os, bare, un, ok', rv, q⟩ =>
    subst q
    obtain rfl : u = Value.bool true := rv
    refine ⟨rfl, OldK.of_keep fun b o e => ?_, os, bare⟩
    rcases hO b with z | ⟨ob, xs, z⟩
    · exact un.keep b o e z (fun q => nomatch (show b ∈ ([] : List Addr) from q)) (fun q => nomatch q)
    · obtain ⟨e1, _⟩ := ok b _ z
      obtain ⟨e2, _⟩ := ok' b _ (un.frzs b ob _ z)
      rw [e] at e1
      cases e1
      exact e2
theorem law_callG (KX : K.In s.heap) (hns : s.heap.Ns mainGlobals mg) (hb : s.heap.Ns builtinsNs mb) (hbb : ∀ x : Str, x ≠ "__name__" → mb x = bootBuiltins x) (hlim : s.heap.NoLimit) (hg : s.gens = #[])
    (ha : s.heap.get? a = some { cls := .type "list", data := .seq vs.toArray }) (hi : IntsAre vs ns) (hl : ns.length ≤ sizeLine) (hr : Room k callerA)
    (F : ∀ base : Heap, K.In base → base.Ns mainGlobals mg → FnG P w K mg base CX k fa fd [x] sp) (hbind : ∀ (s : Shared) (u : Value), BindsTo s fd ⟨[u], []⟩ [(x, u)])
    (hsp : ∀ H : Hp, Only H → SqL K H a (ns.map V.int) → sp [.ref a] H (fun v _ => v = .bl true) fun _ _ _ => False) (hCX : ∀ H e s', CX [] H s (fun _ _ _ => False) e s' → False) :
    codeAny (model P w) callerA (.call (.ref fa) ⟨[.ref a], []⟩) (fun r s' => r = .ok (.ret (.bool true)) ∧ OldK s.heap s'.heap ∧ s'.os = s.os ∧ AllBare s'.gens) s := by
  have rv := vals_ints hi
  cases hk : K.lookup a with
  | some o =>
    have e := KX a o hk
    rw [ha] at e
    cases e
    have S : SqL K (fun _ => none) a (ns.map V.int) := .inr ⟨_, vs.toArray, _, hk, rfl, rfl, rfl, by rw [List.size_toArray, hi.length]; exact hl, by simpa using rv⟩
    exact enterG KX hns hb hbb hlim hg ha hr F hbind hCX (fun _ => .inl rfl) (hsp _ (fun _ => .inl rfl) S) (fun b u z => nomatch z) (fun b u z => nomatch z) (fun u z => nomatch z)
  | none =>
    let H : Hp := fun b => if b = a then some (.frz { cls := .type "list", data := .seq vs.toArray } (.lst (ns.map V.int))) else none
    have Ha : H a = some (.frz { cls := .type "list", data := .seq vs.toArray } (.lst (ns.map V.int))) := if_pos rfl
    have Hn : ∀ b, b ≠ a → H b = none := fun b h => if_neg h
    have one : ∀ b u, H b = some u → b = a := fun b u z => by
      by_cases q : b = a
      · exact q
      · rw [Hn b q] at z
        cases z
    have hO : Only H := fun b => by
      by_cases q : b = a
      · exact .inr ⟨_, _, by rw [q]; exact Ha⟩
      · exact .inl (Hn b q)
    refine enterG KX hns hb hbb hlim hg ha hr F hbind hCX hO (hsp H hO (.inl (.inr ⟨_, Ha⟩))) (fun b u z => ?_) one fun _ _ => hk
    have q := one b u z
    subst q
    rw [Ha] at z
    cases z
    exact ⟨ha, by rw [List.length_map]; exact hl, vs, _, rv, ha⟩
end
theorem walk_ofG {l : PySem.W.OpenLaw} {n k : Nat} {q : Program} {loose : List Str} {XP : (Str → Option Value) → Heap → Prop} {YP : World → Heap → Prop} {d : DefRec} {K : Params → PySem.W.Frag} {sp : World → Sp} {x : Str}
    (hn : l.most = some n) (hn2 : n ≤ sizeLine) (hdf : d.params.defaults = []) (hr : Room k callerA) (hY : ∀ (w : World) (h : Heap), YP w h → (K w.params).In h)
    (F : ∀ (w : World) (mg : Str → Option Value) (fa : Addr) (h : Heap), (K w.params).In h → h.Ns mainGlobals mg → mg d.name = some (.ref fa) →
      ∃ fd : FuncData, (∀ (s : Shared) (u : Value), BindsTo s fd ⟨[u], []⟩ [(x, u)]) ∧ ∀ base : Heap, (K w.params).In base → base.Ns mainGlobals mg → FnG l.prog w (K w.params) mg base CX0 k fa fd [x] (sp w))
    (hsp : ∀ (w : World) (H : Hp) (a : Addr) (ns : List Int), ns.length ≤ n → Only H → SqL (K w.params) H a (ns.map V.int) → sp w [.ref a] H (fun v _ => v = .bl true) fun _ _ _ => False) :
    PySem.W.WalkO q loose XP YP l.row.toRowW d [] (fun f vs => PySem.call f vs) := by
  refine Att.attach_call hn hdf fun w s₀ s₁ mg mb fa o pm cd doc a vs ns G Y ho hd hcd hmg hobj hints hlen hg => ?_
  have KX := hY w _ Y
  obtain ⟨fd, hb, hF⟩ := F w mg fa _ KX G.T.g hmg
  exact law_callG KX G.T.g G.T.b G.T.builtins G.T.nolimit hg hobj hints (Nat.le_trans hlen hn2) hr hF hb (fun H hO hS => hsp w H a ns hlen hO hS) fun _ _ _ z => z
end Eo
/-! walking a reading: one lemma a construct, heaps by what stays -/
namespace Eo
open PySem PyProof.Rows L2 L2.DX

/-! ### heaps -/
def Ex (H H' : Hp) : Prop := ∀ a o, H a = some o → H' a = some o
theorem Ex.refl (H : Hp) : Ex H H := fun _ _ h => h
theorem Ex.trans {H H1 H2 : Hp} (a : Ex H H1) (b : Ex H1 H2) : Ex H H2 := fun x o h => b x o (a x o h)
theorem Ex.at {H H' : Hp} {a : Addr} {o : HO} (e : Ex H H') (h : H a = some o) : H' a = some o := e a o h
theorem Ex.new {H : Hp} {p : Addr} {o : HO} (h : H p = none) : Ex H (upd H p o) := fun a u e => by rw [upd_ne (ne_of_none e h)]; exact e
theorem Ex.free {H H' : Hp} {p : Addr} (e : Ex H H') (h : H' p = none) : H p = none := by
  cases q : H p with
  | none => rfl
  | some o => rw [e p o q] at h; cases h
theorem Ex.sqT {K : PySem.W.Frag} {H H' : Hp} {a : Addr} {xs : List V} (e : Ex H H') (h : SqT K H a xs) : SqT K H' a xs := by
  rcases h with (h | ⟨o, h⟩) | h
  · exact .inl (.inl (e _ _ h))
  · exact .inl (.inr ⟨o, e _ _ h⟩)
  · exact .inr h
theorem Ex.sqL {K : PySem.W.Frag} {H H' : Hp} {a : Addr} {xs : List V} (e : Ex H H') (h : SqL K H a xs) : SqL K H' a xs := by
  rcases h with (h | ⟨o, h⟩) | h
  · exact .inl (.inl (e _ _ h))
  · exact .inl (.inr ⟨o, e _ _ h⟩)
  · exact .inr h
theorem Ex.plT {H H' : Hp} {a : Addr} {xs : List V} (e : Ex H H') (h : PlT H a xs) : PlT H' a xs := let ⟨o, h1, h2⟩ := h; ⟨o, e _ _ h1, h2⟩
/-- what may change -/
def isMu : HO → Bool
  | .tup _ => false
  | .frz _ _ => false
  | .own _ => false
  | .rng _ _ => false
  | _ => true
/-- the object at l is another one, all else stays -/
structure Mu (l : Addr) (H H' : Hp) : Prop where
  was : ∃ o, H l = some o ∧ isMu o = true
  rest : ∀ b o, b ≠ l → H b = some o → H' b = some o
theorem Mu.imm {l b : Addr} {H H' : Hp} {o : HO} (m : Mu l H H') (h : H b = some o) (hi : isMu o = false) : H' b = some o := m.rest b o (fun e => by
  obtain ⟨u, h1, h2⟩ := m.was
  rw [e, h1] at h
  cases h
  rw [hi] at h2
  cases h2) h
theorem Mu.tup {l b : Addr} {H H' : Hp} {xs : List V} (m : Mu l H H') (h : H b = some (.tup xs)) : H' b = some (.tup xs) := m.imm h rfl
theorem Mu.plT {l b : Addr} {H H' : Hp} {xs : List V} (m : Mu l H H') (h : PlT H b xs) : PlT H' b xs := let ⟨o, h1, h2⟩ := h; ⟨o, m.imm h1 rfl, h2⟩
theorem Mu.of {l : Addr} {H : Hp} {o o' : HO} (h : H l = some o) (hm : isMu o = true) : Mu l H (upd H l o') := ⟨⟨o, h, hm⟩, fun b u hb e => by rw [upd_ne hb]; exact e⟩
theorem Ex.mu {H H1 H2 : Hp} {l : Addr} (e : Ex H H1) (m : Mu l H1 H2) (h : H l = none) : Ex H H2 := fun a o q => m.rest a o (ne_of_none q h) (e a o q)
theorem Mu.free {l p : Addr} {H H' : Hp} (m : Mu l H H') (h : H' p = none) (hl : H' l ≠ none) : H p = none := by
  cases q : H p with
  | none => rfl
  | some o =>
    have : p ≠ l := fun e => hl (by rw [← e]; exact h)
    rw [m.rest p o this q] at h
    cases h
theorem ne_kind {H : Hp} {a b : Addr} {o u : HO} (h : H a = some o) (h' : H b = some u) (d : isMu o ≠ isMu u) : a ≠ b := fun e => by
  rw [e, h'] at h
  cases h
  exact d rfl
/-- what cannot change stays -/
def EI (H H' : Hp) : Prop := ∀ b o, H b = some o → isMu o = false → H' b = some o
theorem EI.refl (H : Hp) : EI H H := fun _ _ h _ => h
theorem EI.trans {H H1 H2 : Hp} (a : EI H H1) (b : EI H1 H2) : EI H H2 := fun x o h i => b x o (a x o h i) i
theorem Ex.ei {H H' : Hp} (e : Ex H H') : EI H H' := fun b o h _ => e b o h
theorem Mu.ei {l : Addr} {H H' : Hp} (m : Mu l H H') : EI H H' := fun _ _ h i => m.imm h i
theorem EI.tup {H H' : Hp} {a : Addr} {xs : List V} (e : EI H H') (h : H a = some (.tup xs)) : H' a = some (.tup xs) := e a _ h rfl
theorem EI.plT {H H' : Hp} {a : Addr} {xs : List V} (e : EI H H') (h : PlT H a xs) : PlT H' a xs := let ⟨o, h1, h2⟩ := h; ⟨o, e _ _ h1 rfl, h2⟩
theorem stT {K : PySem.W.Frag} {H : Hp} {a : Addr} {xs : List V} (h : H a = some (.tup xs)) : SqT K H a xs := .inl (.inl h)
theorem stL {K : PySem.W.Frag} {H : Hp} {a : Addr} {xs : List V} (h : H a = some (.lst xs)) : SqL K H a xs := .inl (.inl h)
theorem small {n : Nat} (h : n ≤ 100000) : n ≤ sizeLine := Nat.le_trans h (by decide)
theorem smallL {n : Nat} (h : n < 100000) : n < sizeLine := Nat.lt_of_lt_of_le h (by decide)

section
variable {K : PySem.W.Frag} {σ : L2.St} {H : Hp} {Q : VK} {nx bk ct : L2.St → Hp → Prop} {rt : VK} {i j l : Nat} {t u tz : TS} {te ta tb tc : TE} {tt tw : TT} {v x y : V} {ts : TA}
/-! ### statements -/
theorem q_seq (h : t ⟨u ⟨nx, rt, bk, ct⟩, rt, bk, ct⟩ σ H) : tSeq t u ⟨nx, rt, bk, ct⟩ σ H := h
theorem q_next (h : nx σ H) : tNext ⟨nx, rt, bk, ct⟩ σ H := h
theorem q_brk (h : bk σ H) : tBreak ⟨nx, rt, bk, ct⟩ σ H := h
theorem q_cont (h : ct σ H) : tCont ⟨nx, rt, bk, ct⟩ σ H := h
theorem q_asg (h : te σ H fun x H1 => nx (σ.set i (some x)) H1) : tAsg te (gName i) ⟨nx, rt, bk, ct⟩ σ H := h
theorem q_asgT {n : Nat} {g : TGs} (h : te σ H fun x H1 => gTup K n g x σ H1 nx) : tAsg te (gTup K n g) ⟨nx, rt, bk, ct⟩ σ H := h
theorem q_drop (h : te σ H fun _ H1 => nx σ H1) : tDrop te ⟨nx, rt, bk, ct⟩ σ H := h
theorem q_ret (h : te σ H rt) : tRet te ⟨nx, rt, bk, ct⟩ σ H := h
theorem q_retN (h : rt .non H) : tRetN ⟨nx, rt, bk, ct⟩ σ H := h
theorem q_if (h : tt σ H fun b H1 => if b = true then t ⟨nx, rt, bk, ct⟩ σ H1 else u ⟨nx, rt, bk, ct⟩ σ H1) : tIfS tt t u ⟨nx, rt, bk, ct⟩ σ H := h
theorem q_par (h : ts σ H fun vs H1 => ∃ v w, vs = [v, w] ∧ nx ((σ.set i (some v)).set j (some w)) H1) : tPar i j ts ⟨nx, rt, bk, ct⟩ σ H := h
theorem q_par3 (h : ts σ H fun vs H1 => ∃ v w z, vs = [v, w, z] ∧ nx (((σ.set i (some v)).set j (some w)).set l (some z)) H1) : tPar3 i j l ts ⟨nx, rt, bk, ct⟩ σ H := h
theorem q_aug {f : Int → Int → Int} {a b : Int} (hx : σ[i]? = some (some (.int a))) (h : te σ H fun y H1 => ipI f (.int a) y H1 fun z H2 => nx (σ.set i (some z)) H2) : tAug i te (ipI f) ⟨nx, rt, bk, ct⟩ σ H := ⟨_, hx, h⟩
theorem q_fld {tv to : TE} {f : Str} (h : tv σ H fun y H1 => to σ H1 fun x H2 => ∃ a C dx fs, x = .ref a ∧ H2 a = some (.ins C dx fs) ∧ Cls K C ∧ NoAttr K C f ∧ fs.length < 1000 ∧ nx σ (upd H2 a (.ins C dx (putF f y fs)))) : sFld K to tv f ⟨nx, rt, bk, ct⟩ σ H := h
/-! ### what a value's reading leaves -/
theorem x_bl {P : Bool → Prop} {b : Bool} (h : P b) : ∃ k, V.bl b = V.bl k ∧ P k := ⟨b, rfl, h⟩
theorem x_two {P : V → V → Prop} {a b : V} (h : P a b) : ∃ v w, [a, b] = [v, w] ∧ P v w := ⟨a, b, rfl, h⟩
theorem x_three {P : V → V → V → Prop} {a b c : V} (h : P a b c) : ∃ v w z, [a, b, c] = [v, w, z] ∧ P v w z := ⟨a, b, c, rfl, h⟩
theorem i_T {A B : Prop} (h : A) : if true = true then A else B := by rw [if_pos rfl]; exact h
theorem i_F {A B : Prop} (h : B) : if false = true then A else B := by rw [if_neg Bool.false_ne_true]; exact h
theorem i_dT {p A B : Prop} [Decidable p] (hp : p) (h : A) : if decide p = true then A else B := by rw [if_pos (decide_eq_true hp)]; exact h
theorem i_dF {p A B : Prop} [Decidable p] (hp : ¬ p) (h : B) : if decide p = true then A else B := by rw [if_neg (by rw [decide_eq_false hp]; exact Bool.false_ne_true)]; exact h
theorem i_nT {p A B : Prop} [Decidable p] (hp : ¬ p) (h : A) : if (!decide p) = true then A else B := by rw [if_pos (by rw [decide_eq_false hp]; rfl)]; exact h
theorem i_nF {p A B : Prop} [Decidable p] (hp : p) (h : B) : if (!decide p) = true then A else B := by rw [if_neg (by rw [decide_eq_true hp]; exact Bool.false_ne_true)]; exact h
theorem i_d {p A B : Prop} [Decidable p] (h1 : p → A) (h2 : ¬ p → B) : if decide p = true then A else B := by
  by_cases hp : p
  · exact i_dT hp (h1 hp)
  · exact i_dF hp (h2 hp)
theorem i_n {p A B : Prop} [Decidable p] (h1 : ¬ p → A) (h2 : p → B) : if (!decide p) = true then A else B := by
  by_cases hp : p
  · exact i_nF hp (h2 hp)
  · exact i_nT hp (h1 hp)
theorem i_b {b : Bool} {A B : Prop} (h1 : b = true → A) (h2 : b = false → B) : if b = true then A else B := by
  cases b with
  | true => exact i_T (h1 rfl)
  | false => exact i_F (h2 rfl)
/-! ### expressions -/
theorem e_var (h : σ[i]? = some (some v)) (k : Q v H) : tVar i σ H Q := ⟨v, h, k⟩
theorem e_c (k : Q v H) : tC v σ H Q := k
theorem e_op {r : R2} (k : ta σ H fun x H1 => tb σ H1 fun y H2 => r x y H2 Q) : tOp r ta tb σ H Q := k
theorem e_un {r : V → Hp → VK → Prop} (k : ta σ H fun x H1 => r x H1 Q) : tUn r ta σ H Q := k
theorem e_chain {r r' : R2} (k : ta σ H fun x H1 => tb σ H1 fun y H2 => r x y H2 fun z H3 => ∃ k, z = .bl k ∧ (if k = true then tc σ H3 fun w H4 => r' y w H4 Q else Q (.bl false) H3)) : tChain r r' ta tb tc σ H Q := k
theorem e_test {R : Bool → Hp → Prop} (k : te σ H fun x H1 => ∃ b, x = .bl b ∧ R b H1) : tTest te σ H R := k
theorem e_B {R : Bool → Hp → Prop} (k : te σ H fun x H1 => ∃ b, x = .bl b ∧ R b H1) : tB te σ H R := k
theorem e_yes {R : Bool → Hp → Prop} (k : R true H) : tYes σ H R := k
theorem e_not {R : Bool → Hp → Prop} (k : tt σ H fun b H1 => R (!b) H1) : tNot tt σ H R := k
theorem e_and {R : Bool → Hp → Prop} (k : tt σ H fun b H1 => if b = true then tw σ H1 R else R false H1) : tAnd tt tw σ H R := k
theorem e_or {R : Bool → Hp → Prop} (k : tt σ H fun b H1 => if b = true then R true H1 else tw σ H1 R) : tOr tt tw σ H R := k
theorem e_andV (k : ta σ H fun x H1 => ∃ c, x = .bl c ∧ if c = true then tb σ H1 Q else Q (.bl false) H1) : tAndV ta tb σ H Q := k
theorem e_orV (k : ta σ H fun x H1 => ∃ c, x = .bl c ∧ if c = true then Q (.bl true) H1 else tb σ H1 Q) : tOrV ta tb σ H Q := k
theorem e_notV (k : ta σ H fun x H1 => ∃ c, x = .bl c ∧ Q (.bl (!c)) H1) : tNotV ta σ H Q := k
theorem e_ifx (k : tt σ H fun c H1 => if c = true then ta σ H1 Q else tb σ H1 Q) : tIf tt ta tb σ H Q := k
theorem e_nil {R : List V → Hp → Prop} (k : R [] H) : tNil σ H R := k
theorem e_cons {R : List V → Hp → Prop} (k : ta σ H fun x H1 => ts σ H1 fun xs H2 => R (x :: xs) H2) : tCons ta ts σ H R := k
theorem e_cb {r : List V → Hp → VK → Prop} (k : ts σ H fun vs H1 => r vs H1 Q) : tCB r ts σ H Q := k
theorem e_call {sp : Sp} {dvs : List V} {E : XK} (k : ts σ H fun vs H1 => sp (vs ++ dvs) H1 Q E) : tCall sp dvs E ts σ H Q := k
theorem e_then {kk : V → Hp → VK → Prop} (k : ta σ H fun x H1 => kk x H1 Q) : tThen ta kk σ H Q := k
theorem e_bm {T : String} {r : V → List V → Hp → VK → Prop} (k : ta σ H fun x H1 => tyV K T x H1 ∧ ts σ H1 fun xs H2 => r x xs H2 Q) : tBM K T r ta ts σ H Q := k
theorem e_bm0 {T : String} {r : V → List V → Hp → VK → Prop} (k : ta σ H fun x H1 => tyV K T x H1 ∧ r x [] H1 Q) : tBM0 K T r ta σ H Q := k
theorem e_fld {f : Str} (k : ta σ H fun x H1 => ∃ a C dx fs v, x = .ref a ∧ H1 a = some (.ins C dx fs) ∧ Cls K C ∧ NoAttr K C f ∧ fs.lookup f = some v ∧ Q v H1) : tFld K ta f σ H Q := k
/-- a new object -/
def Al (n : Nat) (o : HO) (H : Hp) (Q : VK) : Prop := n ≤ sizeLine ∧ ∀ p, H p = none → Q (.ref p) (upd H p o)
theorem al {n : Nat} {o : HO} (hn : n ≤ sizeLine) (k : ∀ p H1, H p = none → Ex H H1 → H1 p = some o → Q (.ref p) H1) : Al n o H Q := ⟨hn, fun p hp => k p _ hp (Ex.new hp) upd_same⟩
theorem e_tup (k : ts σ H fun xs H1 => Al xs.length (.tup xs) H1 Q) : tTup ts σ H Q := k
theorem e_lst (k : ts σ H fun xs H1 => Al xs.length (.lst xs) H1 Q) : tLst ts σ H Q := k
/-! ### operators -/
theorem r_I0 {g : Int → Int → V} {a b : Int} (k : Q (g a b) H) : rI0 g (.int a) (.int b) H Q := ⟨a, b, rfl, rfl, k⟩
theorem r_I {C : Int → Int → Prop} {g : Int → Int → V} {a b : Int} (hc : C a b) (k : Q (g a b) H) : rI C g (.int a) (.int b) H Q := ⟨a, b, rfl, rfl, hc, k⟩
theorem r_add {a b : Int} (k : Q (.int (a + b)) H) : L2.rAdd (.int a) (.int b) H Q := ⟨a, b, rfl, rfl, k⟩
theorem r_ip {f : Int → Int → Int} {a b : Int} (k : Q (.int (f a b)) H) : ipI f (.int a) (.int b) H Q := ⟨a, b, rfl, rfl, k⟩
theorem r_eq (h : scal x y = true) (k : Q (.bl (decide (x = y))) H) : rEq x y H Q := ⟨h, k⟩
theorem r_ne (h : scal x y = true) (k : Q (.bl (!decide (x = y))) H) : rNe x y H Q := ⟨h, k⟩
theorem r_ixT {p : Addr} {xs : List V} {n : Int} (h : SqT K H p xs) (ha : atI xs n = some v) (k : Q v H) : rIxT K (.ref p) (.int n) H Q := ⟨p, xs, n, v, rfl, rfl, h, ha, k⟩
theorem r_ixL {p : Addr} {xs : List V} {n : Int} (h : SqL K H p xs) (ha : atI xs n = some v) (k : Q v H) : rIxL K (.ref p) (.int n) H Q := ⟨p, xs, n, v, rfl, rfl, h, ha, k⟩
theorem r_catT {a b : Addr} {xs ys : List V} (h1 : SqT K H a xs) (h2 : SqT K H b ys) (hl : xs.length + ys.length ≤ sizeLine) (t1 : H a = some (.tup xs)) (t2 : H b = some (.tup ys)) (k : ∀ p H1, Ex H H1 → H1 p = some (.tup (xs ++ ys)) → Q (.ref p) H1) : rCatA K (.ref a) (.ref b) H Q :=
  ⟨a, b, xs, ys, rfl, rfl, h1, h2, hl, fun e => k b H (Ex.refl H) (by rw [e]; exact t2), fun _ e => k a H (Ex.refl H) (by rw [e, List.append_nil]; exact t1), fun _ _ p hp => k p _ (Ex.new hp) upd_same⟩
theorem r_cat {a b : Addr} {xs ys : List V} (h1 : H a = some (.lst xs)) (h2 : H b = some (.lst ys)) (hl : xs.length + ys.length ≤ sizeLine) (k : ∀ p H1, H p = none → Ex H H1 → H1 p = some (.lst (xs ++ ys)) → Q (.ref p) H1) : rCat (.ref a) (.ref b) H Q :=
  ⟨a, b, xs, ys, rfl, rfl, h1, h2, hl, fun p hp => k p _ hp (Ex.new hp) upd_same⟩
theorem r_tupL {p : Addr} {xs : List V} (h : SqL K H p xs) (k : ∀ q H1, H q = none → Ex H H1 → H1 q = some (.tup xs) → Q (.ref q) H1) : kTup K (.ref p) H Q := .inl ⟨p, xs, rfl, h, fun q hq => k q _ hq (Ex.new hq) upd_same⟩
theorem r_app {a : Addr} {xs : List V} (h : H a = some (.lst xs)) (hl : xs.length < sizeLine) (k : ∀ H1, Mu a H H1 → H1 a = some (.lst (xs ++ [v])) → Q .non H1) : rAppend (.ref a) [v] H Q :=
  ⟨a, xs, v, rfl, rfl, h, hl, k _ (Mu.of h rfl) upd_same⟩
theorem ty_list {a : Addr} {xs : List V} {R : Prop} (h : SqL K H a xs) (k : R) : tyV K "list" (.ref a) H ∧ R := ⟨.inl ⟨rfl, xs, h⟩, k⟩
theorem atI_ok {α : Type} {xs : List α} {n : Nat} {v : α} (h : xs[n]? = some v) : atI xs (n : Int) = some v := atI_nat h
end
/-! ### comprehensions -/
section
variable {K : PySem.W.Frag} {σ : L2.St} {H : Hp} {Q : VK} {J : It} {n : Nat} {G : Hp → Prop} {Y : Nat → Hp → V → Hp → Prop} {g : TG} {tt : TT} {te : TE} {vs : List Nat}
/-- a walk of what stands still -/
structure Wk (J : It) (n : Nat) (H : Hp) (Y : Nat → Hp → V → Hp → Prop) : Prop where
  walk : ∃ G : Hp → Prop, Walk J n G Y ∧ ∀ H', Ex H H' → G H'
  ext : ∀ i H1 x H2, Y i H1 x H2 → Ex H1 H2
theorem wk_tup {a : Addr} {xs : List V} (h : SqT K H a xs) : Wk (Itt K a) xs.length H (YAt xs) := ⟨⟨_, walk_tup, fun H' e => e.sqT h⟩, fun i H1 x H2 y => by rw [y.1]; exact Ex.refl _⟩
theorem wk_list {a : Addr} {xs : List V} (h : SqL K H a xs) : Wk (Itl K a) xs.length H (YAt xs) := ⟨⟨_, walk_list, fun H' e => e.sqL h⟩, fun i H1 x H2 y => by rw [y.1]; exact Ex.refl _⟩
theorem wk_range {lo : Int} {n : Nat} : Wk (Itr lo n) n H (YFn fun i => .int (lo + i)) := ⟨⟨_, walk_range, fun _ _ => trivial⟩, fun i H1 x H2 y => by rw [y.1]; exact Ex.refl _⟩
theorem wk_str {z : Str} : Wk (Its z) z.cps.size H (fun i H1 v H' => H' = H1 ∧ ∃ c, z.cps[i]? = some c ∧ v = .str ⟨#[c]⟩) := ⟨⟨_, walk_str, fun _ _ => trivial⟩, fun i H1 x H2 y => by rw [y.1]; exact Ex.refl _⟩
theorem yp_ext {xs ys : Nat → Option V} {i : Nat} {H1 H2 : Hp} {x : V} (y : YPair xs ys i H1 x H2) : Ex H1 H2 := by
  obtain ⟨T, a, b, _, h, e, _⟩ := y
  rw [e]
  exact Ex.new h
theorem wk_enumL {a : Addr} {xs : List V} (h : SqL K H a xs) : Wk (Ite K a) xs.length H (YPair (fun i => some (.int (i : Nat))) (fun i => xs[i]?)) := ⟨⟨_, walk_enum, fun H' e => e.sqL h⟩, fun _ _ _ _ y => yp_ext y⟩
theorem wk_enumT {a : Addr} {xs : List V} (h : SqT K H a xs) : Wk (ItE K a) xs.length H (YPair (fun i => some (.int (i : Nat))) (fun i => xs[i]?)) := ⟨⟨_, walk_enumT, fun H' e => e.sqT h⟩, fun _ _ _ _ y => yp_ext y⟩
theorem wk_zip {a b : Addr} {xs ys : List V} {n : Nat} (hn : n = min xs.length ys.length) (h1 : SqL K H a xs) (h2 : SqL K H b ys) : Wk (Itz K a b) n H (YPair (fun i => xs[i]?) (fun i => ys[i]?)) := ⟨⟨_, walk_zip hn, fun H' e => ⟨e.sqL h1, e.sqL h2⟩⟩, fun _ _ _ _ y => yp_ext y⟩
theorem wk_zipM {a b : Addr} {xs ys : List V} {n : Nat} (e1 : n = xs.length) (e2 : n = ys.length) (h1 : SqL K H a xs) (h2 : SqT K H b ys) : Wk (ItZ K a b) n H (YPair (fun i => xs[i]?) (fun i => ys[i]?)) := ⟨⟨_, walk_zipM e1 e2, fun H' e => ⟨e.sqL h1, e.sqT h2⟩⟩, fun _ _ _ _ y => yp_ext y⟩
/-- what a comprehension asks behind its walk -/
def Lc (J : It) (g : TG) (tt : TT) (te : TE) (vs : List Nat) (σ : L2.St) (H : Hp) (Q : VK) : Prop := ∀ D, H D = none → ∃ W : Nat → Nat → Hp → Prop, (∃ m, W 0 m (upd H D (.lst []))) ∧ ∀ i m H, W i m H →
  (J.stop i H ∧ Q (.ref D) H) ∨ (J.go i H ∧ ∃ Nx : Hp → Prop, (∀ H', Nx H' → ∃ m', m' < m ∧ W (i + 1) m' H') ∧ ∀ x H', J.yld i H x H' → g x (wipe σ vs) H' fun σ2 H2 => wipe σ2 vs = wipe σ vs ∧ tt σ2 H2 fun b H3 =>
    if b = true then te σ2 H3 fun y H4 => ∃ acc, H4 D = some (.lst acc) ∧ acc.length < sizeLine ∧ Nx (upd H4 D (.lst (acc ++ [y]))) else Nx H3)
/-- by a word I of the turn, what is made so far, and what cannot change -/
theorem lc_I (I : Nat → List V → Hp → Prop) (w : Wk J n H Y) (hn : n ≤ 50000) (h0 : ∀ H1, Ex H H1 → I 0 [] H1) (mono : ∀ i acc H1 H2, EI H1 H2 → I i acc H1 → I i acc H2)
    (step : ∀ i acc x H1 H2, i < n → Ex H H2 → I i acc H2 → Y i H1 x H2 → ∀ R : V → Hp → Prop, ∀ N : Hp → Prop, (∀ y H3, Ex H2 H3 → I (i + 1) (acc ++ [y]) H3 → R y H3) → (∀ H3, Ex H2 H3 → I (i + 1) acc H3 → N H3) →
      g x (wipe σ vs) H2 fun σ2 H3 => wipe σ2 vs = wipe σ vs ∧ tt σ2 H3 fun b H4 => if b = true then te σ2 H4 R else N H4)
    (k : ∀ D acc H1, H D = none → Ex H H1 → H1 D = some (.lst acc) → acc.length ≤ n → I n acc H1 → Q (.ref D) H1) : Lc J g tt te vs σ H Q := by
  intro D hD
  obtain ⟨⟨G, wk, hG⟩, ext⟩ := w
  refine lc_it wk (D := D) (Qd := fun H' => Q (.ref D) H') (fun i H' => Ex H H' ∧ ∃ acc, H' D = some (.lst acc) ∧ acc.length ≤ i ∧ I i acc H') ⟨Ex.new hD, [], upd_same, Nat.zero_le _, h0 _ (Ex.new hD)⟩ (fun i H' _ p => hG H' p.1) (fun i x H1 H2 hi p y => ?_)
    fun H' p => let ⟨e, acc, h1, h2, h3⟩ := p; k D acc H' hD e h1 h2 h3
  obtain ⟨e, acc, h1, h2, h3⟩ := p
  have e2 := ext _ _ _ _ y
  refine step i acc x H1 H2 hi (e.trans e2) (mono _ _ _ _ e2.ei h3) y (fun y H4 => ∃ acc, H4 D = some (.lst acc) ∧ acc.length < sizeLine ∧ (Ex H (upd H4 D (.lst (acc ++ [y]))) ∧ ∃ acc', (upd H4 D (.lst (acc ++ [y]))) D = some (.lst acc') ∧ acc'.length ≤ i + 1 ∧ I (i + 1) acc' (upd H4 D (.lst (acc ++ [y])))))
    (fun H3 => Ex H H3 ∧ ∃ acc, H3 D = some (.lst acc) ∧ acc.length ≤ i + 1 ∧ I (i + 1) acc H3)
    (fun y H3 e3 q => ?_) (fun H3 e3 q => ⟨(e.trans e2).trans e3, acc, e3 _ _ (e2 _ _ h1), by omega, q⟩)
  have at3 := e3 _ _ (e2 _ _ h1)
  have m : Mu D H3 (upd H3 D (.lst (acc ++ [y]))) := Mu.of at3 rfl
  exact ⟨acc, at3, smallL (by omega), ((e.trans e2).trans e3).mu m hD, acc ++ [y], upd_same, by rw [List.length_append, List.length_singleton]; omega, mono _ _ _ _ m.ei q⟩
/-- each turn gives one item, R tells of it -/
theorem lc_R (R : Nat → V → Hp → Prop) (w : Wk J n H Y) (hn : n ≤ 50000) (mono : ∀ i y H1 H2, EI H1 H2 → R i y H1 → R i y H2)
    (step : ∀ i x H1 H2, i < n → Ex H H2 → Y i H1 x H2 → ∀ P : V → Hp → Prop, (∀ y H3, Ex H2 H3 → R i y H3 → P y H3) → g x (wipe σ vs) H2 fun σ2 H3 => wipe σ2 vs = wipe σ vs ∧ te σ2 H3 P)
    (k : ∀ D ys H1, H D = none → Ex H H1 → H1 D = some (.lst ys) → ys.length = n → (∀ i y, ys[i]? = some y → R i y H1) → Q (.ref D) H1) : Lc J g tYes te vs σ H Q := by
  refine lc_I (fun i acc H' => acc.length = i ∧ ∀ j y, acc[j]? = some y → R j y H') w hn (fun H1 _ => ⟨rfl, fun j y e => by simp at e⟩) (fun i acc H1 H2 e h => ⟨h.1, fun j y q => mono j y H1 H2 e (h.2 j y q)⟩) (fun i acc x H1 H2 hi e hI y P N hP _ => ?_)
    fun D acc H1 hD e h1 _ hI => k D acc H1 hD e h1 hI.1 hI.2
  have h := step i x H1 H2 hi e y P fun y' H3 e3 r => hP y' H3 e3 ⟨by rw [List.length_append, hI.1]; rfl, fun j z q => by
    by_cases hj : j < i
    · rw [List.getElem?_append_left (by omega)] at q
      exact mono _ _ _ _ e3.ei (hI.2 j z q)
    · rw [List.getElem?_append_right (by omega), hI.1] at q
      have hj0 : j - i = 0 := by
        have := (List.getElem?_eq_some_iff.mp q).1
        rw [List.length_singleton] at this
        omega
      rw [hj0] at q
      have ej : j = i := by omega
      subst ej
      have ez : y' = z := Option.some.inj q
      rw [← ez]
      exact r⟩
  exact h
/-- the items are told ahead -/
theorem lc_V (ys : List V) (w : Wk J n H Y) (hn : n ≤ 50000) (hl : ys.length = n)
    (step : ∀ i x y H1 H2, ys[i]? = some y → Ex H H2 → Y i H1 x H2 → ∀ P : V → Hp → Prop, (∀ H3, Ex H2 H3 → P y H3) → g x (wipe σ vs) H2 fun σ2 H3 => wipe σ2 vs = wipe σ vs ∧ te σ2 H3 P)
    (k : ∀ D H1, H D = none → Ex H H1 → H1 D = some (.lst ys) → Q (.ref D) H1) : Lc J g tYes te vs σ H Q := by
  refine lc_R (fun i y _ => ys[i]? = some y) w hn (fun _ _ _ _ _ h => h) (fun i x H1 H2 hi e y P hP => ?_) fun D zs H1 hD e h1 hz hR => ?_
  · have hy : ys[i]? = some (ys[i]'(by omega)) := List.getElem?_eq_getElem (by omega)
    exact step i x _ H1 H2 hy e y P fun H3 e3 => hP _ H3 e3 hy
  · have : zs = ys := List.ext_getElem? fun i => by
      by_cases hi : i < n
      · have q : zs[i]? = some (zs[i]'(by omega)) := List.getElem?_eq_getElem (by omega)
        rw [q, hR i _ q]
      · rw [List.getElem?_eq_none (by omega), List.getElem?_eq_none (by omega)]
    rw [this] at h1
    exact k D H1 hD e h1
/-! ### what is walked -/
variable {ta tb tc : TE} {ts : TA} {v : V}
theorem l_tup (h : ta σ H fun x H1 => ∃ a, x = .ref a ∧ (∃ xs, SqT K H1 a xs) ∧ Lc (Itt K a) g tt te vs σ H1 Q) : tLc (iTup K ta) g tt te vs σ H Q := h
theorem l_list (h : ta σ H fun x H1 => ∃ a, x = .ref a ∧ (∃ xs, SqL K H1 a xs) ∧ Lc (Itl K a) g tt te vs σ H1 Q) : tLc (iList K ta) g tt te vs σ H Q := h
theorem l_rng1 (h : ts σ H fun xs H1 => ∃ j : Int, xs = [.int j] ∧ -(2 ^ 62) ≤ j ∧ j < 2 ^ 62 ∧ Lc (Itr 0 j.toNat) g tt te vs σ H1 Q) : tLc (iRng1 ts) g tt te vs σ H Q := h
theorem l_rng2 (h : ts σ H fun xs H1 => ∃ i j : Int, xs = [.int i, .int j] ∧ (-(2 ^ 62) ≤ i ∧ i < 2 ^ 62 ∧ -(2 ^ 62) ≤ j ∧ j < 2 ^ 62) ∧ Lc (Itr i (j - i).toNat) g tt te vs σ H1 Q) : tLc (iRng2 ts) g tt te vs σ H Q := h
theorem l_str (h : ta σ H fun x H1 => ∃ z, x = .str z ∧ Lc (Its z) g tt te vs σ H1 Q) : tLc (iStr ta) g tt te vs σ H Q := h
theorem l_enumL (h : ts σ H fun xs H1 => ∃ a ys, xs = [.ref a] ∧ SqL K H1 a ys ∧ Lc (Ite K a) g tt te vs σ H1 Q) : tLc (iEnum K ts) g tt te vs σ H Q := h
theorem l_enumT (h : ts σ H fun xs H1 => ∃ a ys, xs = [.ref a] ∧ SqT K H1 a ys ∧ Lc (ItE K a) g tt te vs σ H1 Q) : tLc (iEnumT K ts) g tt te vs σ H Q := h
theorem l_zip (h : ts σ H fun xs H1 => ∃ a b ys zs, xs = [.ref a, .ref b] ∧ SqL K H1 a ys ∧ SqL K H1 b zs ∧ Lc (Itz K a b) g tt te vs σ H1 Q) : tLc (iZip K ts) g tt te vs σ H Q := h
theorem l_zipM (h : ts σ H fun xs H1 => ∃ a b ys zs, xs = [.ref a, .ref b] ∧ SqL K H1 a ys ∧ SqT K H1 b zs ∧ Lc (ItZ K a b) g tt te vs σ H1 Q) : tLc (iZipM K ts) g tt te vs σ H Q := h
/-! ### for -/
def Fr (J : It) (g : TG) (tb : TS) (D : Ends) (σ : L2.St) (H : Hp) : Prop := ∃ W : Nat → Nat → L2.St → Hp → Prop, (∃ m, W 0 m σ H) ∧ ∀ i m σ H, W i m σ H →
  (J.stop i H ∧ D.nx σ H) ∨ (J.go i H ∧ ∃ N : L2.St → Hp → Prop, (∀ σ' H', N σ' H' → ∃ m', m' < m ∧ W (i + 1) m' σ' H') ∧ ∀ x H', J.yld i H x H' → g x σ H' fun σ2 H2 => tb { D with nx := N, ct := N, bk := D.nx } σ2 H2)
variable {nx bk ct : L2.St → Hp → Prop} {rt : VK} {t : TS}
theorem fr_W {Gw : Hp → Prop} (w : Walk J n Gw Y) (Pv : Nat → L2.St → Hp → Prop) (h0 : Pv 0 σ H) (hG : ∀ i σ H, i ≤ n → Pv i σ H → Gw H)
    (hs : ∀ i x σ H H', i < n → Pv i σ H → Y i H x H' → g x σ H' fun σ2 H2 => t ⟨Pv (i + 1), rt, nx, Pv (i + 1)⟩ σ2 H2) (hd : ∀ σ H, Pv n σ H → nx σ H) : Fr J g t ⟨nx, rt, bk, ct⟩ σ H := for_it w (D := ⟨nx, rt, bk, ct⟩) Pv h0 hG hs hd
theorem f_tup (h : ta σ H fun x H1 => ∃ a, x = .ref a ∧ (∃ xs, SqT K H1 a xs) ∧ Fr (Itt K a) g t ⟨nx, rt, bk, ct⟩ σ H1) : tFor (iTup K ta) g t ⟨nx, rt, bk, ct⟩ σ H := h
theorem f_list (h : ta σ H fun x H1 => ∃ a, x = .ref a ∧ (∃ xs, SqL K H1 a xs) ∧ Fr (Itl K a) g t ⟨nx, rt, bk, ct⟩ σ H1) : tFor (iList K ta) g t ⟨nx, rt, bk, ct⟩ σ H := h
theorem f_rng1 (h : ts σ H fun xs H1 => ∃ j : Int, xs = [.int j] ∧ -(2 ^ 62) ≤ j ∧ j < 2 ^ 62 ∧ Fr (Itr 0 j.toNat) g t ⟨nx, rt, bk, ct⟩ σ H1) : tFor (iRng1 ts) g t ⟨nx, rt, bk, ct⟩ σ H := h
theorem f_enumL (h : ts σ H fun xs H1 => ∃ a ys, xs = [.ref a] ∧ SqL K H1 a ys ∧ Fr (Ite K a) g t ⟨nx, rt, bk, ct⟩ σ H1) : tFor (iEnum K ts) g t ⟨nx, rt, bk, ct⟩ σ H := h
theorem f_enumT (h : ts σ H fun xs H1 => ∃ a ys, xs = [.ref a] ∧ SqT K H1 a ys ∧ Fr (ItE K a) g t ⟨nx, rt, bk, ct⟩ σ H1) : tFor (iEnumT K ts) g t ⟨nx, rt, bk, ct⟩ σ H := h
/-- while, by a word and a number that falls -/
theorem w_W (W : Nat → L2.St → Hp → Prop) (m0 : Nat) (h0 : W m0 σ H)
    (hs : ∀ m σ H, W m σ H → tt σ H fun b H1 => if b = true then ∃ N : L2.St → Hp → Prop, (∀ σ' H', N σ' H' → ∃ m', m' < m ∧ W m' σ' H') ∧ t ⟨N, rt, nx, N⟩ σ H1 else nx σ H1) : tWhile tt t ⟨nx, rt, bk, ct⟩ σ H := ⟨W, ⟨m0, h0⟩, hs⟩
theorem w_N {W : Nat → L2.St → Hp → Prop} {m : Nat} (h : t ⟨fun σ' H' => ∃ m', m' < m ∧ W m' σ' H', rt, nx, fun σ' H' => ∃ m', m' < m ∧ W m' σ' H'⟩ σ H) :
    ∃ N : L2.St → Hp → Prop, (∀ σ' H', N σ' H' → ∃ m', m' < m ∧ W m' σ' H') ∧ t ⟨N, rt, nx, N⟩ σ H := ⟨_, fun _ _ n => n, h⟩
end
end Eo
/-! {t: x} with t a tuple; t.index(i) on ints -/
namespace Eo
open PySem PySem.Spec PyProof.Rows L2 L2.DX
section
variable {X : Cx}
def tDisp1T (tk tv : TE) : TE := fun σ H Q => ∀ p, H p = none → tPairs [(tk, tv)] σ (upd H p (.dT [])) fun ps H2 => ∃ (ks : List Key) (b : Addr) (y : V), ps = [(.ref b, y)] ∧ H2 b = some (.tup (ks.map kV)) ∧ H2 p = some (.dT []) ∧ Q (.ref p) (upd H2 p (.dT [(ks, y)]))
theorem pe_disp1T {k v : Expr} {tk tv : TE} {pos : Pos} (hu : X.A.units + 1 < cLine) (hk : PE X k tk) (hv : PE X v tv) : PE X (.Dict [some k] [v] pos) (tDisp1T tk tv) := by
  refine ⟨fun pins s σ H Q I q => ?_⟩
  have hn := I.hok.fresh (Nat.le_refl s.heap.objs.size)
  have I1 := I.laid (a := s.heap.objs.size) (o := .dT []) (h' := s.heap.push { cls := .type "dict", data := .dict #[] }) (t' := s.toks) (fun _ _ q => Heap.get?_push_of_some _ q) (Nat.le_refl _) (dt_empty s.heap I.big)
  have hw := q _ hn
  have hp : PPs X pos [some k] [v] [(tk, tv)] := pps_cons hk hv pps_nil
  have hlen := pairTrees_length [some k] [v] X.env pos rfl rfl
  have h1 : (pairTrees [some k] [v] X.env pos).length = 1 := hlen
  rw [arm_eval_Dict, zip_pairTrees [some k] [v] X.env pos rfl rfl, dictDisplay_pairs (pairTrees [some k] [v] X.env pos) (fun he => by rw [he] at h1; cases h1) (by omega)]
  refine wpAny_bind (wpAny_standAt (wpAny_bind ?_))
  unfold subDict
  refine wpAny_bind (wpAny_alloc ?_)
  refine wpAny_bind (wpAny_holding ?_)
  rw [if_pos (by omega)]
  refine wpAny_bind (thn (hp.run pins _ σ _ _ I1 hw) fun ws s2 ⟨ps, H2, I2, rel, ks, b, y, eps, eb, ep, q2⟩ => ?_)
  subst eps
  cases rel with
  | @cons a0 b0 as0 bs0 h t =>
    cases t
    obtain ⟨u0, v0⟩ := b0
    obtain ⟨r1, r2⟩ := h
    have e1 : u0 = Value.ref b := r1
    subst e1
    obtain ⟨z, hd, xs, rel, dd⟩ := dt_of I2.hok ep
    cases rel
    refine wpAny_holding ?_
    rw [List.forIn_cons]
    refine wpAny_bind (wpAny_bind (wpAny_bind (wpAny_dictSet_heap (hsz := Nat.zero_le _) (show (tupleKind (mixKind X.prog X.w)).room _ from Nat.lt_of_succ_lt hu) (key_of I2.hok eb) dd fun h' dd' hs => wpAny_pure ?_)))
    dsimp only
    rw [List.forIn_nil]
    refine wpAny_pure (wpAny_pure (wpAny_pure (wpAny_pure ?_)))
    obtain ⟨q, es, epp, hq, h2, h3, h4, _, h5⟩ := dd'
    have J : Inv X pins σ (upd H2 s.heap.objs.size (.dT [(ks, y)])) { s2 with heap := h', toks := s2.toks + (tupleKind (mixKind X.prog X.w)).draws ks } :=
      d_write I2 (by rw [ep]; trivial) hs ⟨q, hq⟩ ⟨show 1 ≤ sizeLine from (by decide), hd, _, (KT.put (kvs := []) .nil ks eb r2).keeps fun c ys ec => by rw [upd_ne (ne_of ec ep fun z => nomatch z)]; exact ec, q, es, epp, hq, h2, h3, h4, h5⟩
    exact ⟨.ref s.heap.objs.size, _, J, rfl, q2⟩
theorem flat_ints (ys : List Int) : (ys.map V.int).all flatV = true := by
  rw [List.all_map]
  exact List.all_eq_true.mpr fun _ _ => rfl
/-- t.index(i), the first place -/
theorem mt_tup_indexI : MtR X "tuple.index" (fun x xs H Q => ∃ p, ∃ ys : List Int, ∃ z j, x = .ref p ∧ xs = [.int z] ∧ SqT X.K H p (ys.map V.int) ∧ ys[j]? = some z ∧ (∀ m, m < j → ys[m]? ≠ some z) ∧ Q (.int (j : Nat)) H) := by
  intro pins s σ H x xs v us Q I rx rs h
  obtain ⟨p, ys, z, j, rfl, rfl, hq, hy, hno, q⟩ := h
  cases rx
  obtain ⟨u, rfl, t, rfl⟩ := vals1 rs
  obtain ⟨its, r, pl, hz⟩ := I.tuple hq
  obtain ⟨⟨cls, dd, dt, sl⟩, ho, hc, n, hd⟩ := pl
  simp only at hc hd
  subst hc
  subst hd
  have hl : its.toArray.size = ys.length := by rw [List.size_toArray, ← r.length, List.length_map]
  have hj : j < its.toArray.size := by rw [hl]; exact (List.getElem?_eq_some_iff.mp hy).1
  have at' : ∀ (m : Nat) (hm : m < its.toArray.size), ∃ y t', ys[m]? = some y ∧ its.toArray[m] = Value.int y t' := fun m hm => by
    have hm' : m < ys.length := by rw [← hl]; exact hm
    obtain ⟨w, hw, t', hw'⟩ := r.get (i := m) (x := .int ys[m]) (by simp [hm'])
    refine ⟨ys[m], t', List.getElem?_eq_getElem hm', ?_⟩
    have e := (List.getElem?_eq_some_iff.mp hw).2
    rw [← hw', ← e]
    simp
  refine call_meets PySem.F.slot_tuple_index ⟨_, ho, rfl⟩ PySem.F.entry_tuple_index (PySem.F.args_tuple_index_2 _ _) (TI.tuple_indexAt p its.toArray n dd sl (.int z t) (eqU (.int z)) j hj ?_ ?_)
    ⟨ho, fun w hw => mem_eqAt (x := .int z) ⟨t, rfl⟩ rfl r (flat_ints ys) w (by simpa using hw), ⟨.int (j : Nat), H, I.tok _, ⟨_, rfl⟩, q⟩⟩
  · obtain ⟨y, t', h1, h2⟩ := at' j hj
    rw [hy] at h1
    cases h1
    rw [h2]
    simp [eqU, L2.eqV]
  · intro m hm hmj
    obtain ⟨y, t', h1, h2⟩ := at' m hm
    have ne : y ≠ z := fun e => hno m hmj (by rw [h1, e])
    rw [h2]
    simpa [eqU, L2.eqV] using ne
def tIdxI (K : PySem.W.Frag) (to : TE) (t : TA) : TE := fun σ H Q => to σ H fun x H1 => ∃ p xs, x = .ref p ∧ PlT H1 p xs ∧ t σ H1 fun vs H2 => ∃ (ys : List Int) (z : Int) (j : Nat), vs = [.int z] ∧ SqT K H2 p (ys.map V.int) ∧ ys[j]? = some z ∧ (∀ m, m < j → ys[m]? ≠ some z) ∧ Q (.int (j : Nat)) H2
theorem pe_idxI {o e : Expr} {es : List Expr} {to : TE} {t : TA} {apos cpos : Pos} (ho : PE X o to) (ha : PA X (e :: es) t)
    (hbase : attributeBase o "index" X.env (eval o X.env) = eval o X.env := by rfl)
    (hfew : ((backTo cpos (starEach (e :: es) X.env)).all (fun x => !x.1) && (backToKw cpos (keywordEach [] X.env)).all (fun x => x.1.isSome) && decide ((e :: es).length + ([] : List Keyword).length + (if ([] : List Keyword).isEmpty then 0 else 1) < 30)) = true := by rfl)
    (hline : (apos.endLine == cpos.line) = true := by rfl) (hs : starEach (e :: es) X.env = (false, eval e X.env) :: starEach es X.env := by rfl) (hplain : (backTo cpos (starEach es X.env)).any (·.1) = false := by rfl) :
    PE X (.Call (.Attribute o "index" apos) (e :: es) [] cpos) (tIdxI X.K to t) := by
  refine ⟨fun pins s σ H Q I h => ?_⟩
  refine wpAny_Call_method_late hbase hfew hline rfl (thn (ho.run pins s σ H _ I h) fun v s1 ⟨x, H1, I1, r1, p, xs, ex, ⟨ob, hp, hcl, hdn⟩, q1⟩ => ?_)
  subst ex
  cases r1
  obtain ⟨hob, _⟩ := I1.hok p _ hp
  refine ⟨"tuple", "tuple.index", PySem.F.plainAttrs_tuple, PySem.F.slot_tuple_index, PySem.F.type_tuple_index, ⟨ob, hob, hcl⟩, fun a e2 => by cases e2; exact ⟨ob, hob, hdn⟩, ?_⟩
  have args := ha.run cpos pins s1 σ H1 _ I1 q1
  rw [hs] at args ⊢
  refine Calls.callWith_builtin (by show (false || (backTo cpos (starEach es X.env)).any (·.1)) = false; rw [hplain] <;> rfl) (Calls.evalArgs_plain (thn args fun us s2 ⟨vs, H2, I2, r2, ys, z, j, ev, hq, hj, hno, q2⟩ => ?_))
  subst ev
  exact mt_tup_indexI pins s2 σ H2 (.ref p) [.int z] (.ref p) us Q I2 rfl r2 ⟨p, ys, z, j, rfl, rfl, hq, hj, hno, q2⟩
/-- a list or a tuple is walked -/
def iAny (K : PySem.W.Frag) (tl : TE) : TI := fun σ H R => tl σ H fun x H1 => ∃ a, x = .ref a ∧ (((∃ xs, SqL K H1 a xs) ∧ R (Itl K a) H1) ∨ ((∃ xs, SqT K H1 a xs) ∧ R (Itt K a) H1))
theorem pi_any {tg l : Expr} {tl : TE} (hl : PE X l tl) : PI X tg l (iAny X.K tl) := by
  refine ⟨fun pins s σ H R I h => ?_⟩
  refine thn (hl.run pins s σ H _ I h) fun v s1 ⟨x, H1, I1, r1, q1⟩ => ?_
  obtain ⟨a, e, q1⟩ := q1
  subst e
  cases r1
  rcases q1 with ⟨⟨xs, hq⟩, q⟩ | ⟨⟨xs, hq⟩, q⟩
  · obtain ⟨its, rv, p, hz⟩ := I1.list hq
    refine wpAny_pyIter_list p.isList ?_
    refine ⟨s1.heap.objs.size, [s1.heap.objs.size], _, _, H1, rfl, I1.kept (t' := s1.toks) fun b o e => Heap.get?_push_of_some _ e, turn_list a _, ⟨_, Heap.get?_push_size _ rfl, rfl, rfl⟩, fun b hb => ?_, q⟩
    obtain rfl : b = s1.heap.objs.size := by simpa using hb
    exact I1.fpOk (Nat.le_refl _) (I1.hok.fresh (Nat.le_refl _))
  · obtain ⟨its, rv, p, hz⟩ := I1.tuple hq
    refine wpAny_pyIter_tuple (show s1.heap.IsTuple a its.toArray from p) ?_
    refine ⟨s1.heap.objs.size, [s1.heap.objs.size], _, _, H1, rfl, I1.kept (t' := s1.toks) fun b o e => Heap.get?_push_of_some _ e, turn_tuple a _, ⟨_, Heap.get?_push_size _ rfl, rfl, rfl⟩, fun b hb => ?_, q⟩
    obtain rfl : b = s1.heap.objs.size := by simpa using hb
    exact I1.fpOk (Nat.le_refl _) (I1.hok.fresh (Nat.le_refl _))
end
end Eo
/-! the rules with the written part K named (so that they fit within a comprehension), and their readings -/
namespace Eo
open PySem PyProof.Rows L2 L2.DX
section
variable {X : Cx} (K : PySem.W.Frag)
theorem kix_tup (h : X.K = K := by rfl) : IxR X (rIxT K) := h ▸ ix_tup
theorem kix_list (h : X.K = K := by rfl) : IxR X (rIxL K) := h ▸ ix_list
theorem kix_seq (h : X.K = K := by rfl) : IxR X (rIx K) := h ▸ ix_seq
def rLen (K : PySem.W.Frag) : List V → Hp → VK → Prop := fun xs H Q => ∃ p ys, xs = [.ref p] ∧ (SqL K H p ys ∨ SqT K H p ys) ∧ Q (.int ys.length) H
theorem kcall_len (h : X.K = K := by rfl) : CallR X (.builtin "len") (rLen K) := h ▸ call_len_seq
def rLenS : List V → Hp → VK → Prop := fun xs H Q => ∃ z : Str, xs = [.str z] ∧ z.length ≤ sizeLine ∧ Q (.int z.length) H
theorem kcall_lenS : CallR X (.builtin "len") rLenS := call_len_str
/-- len of a list, a tuple or a text -/
def rLenA (K : PySem.W.Frag) : List V → Hp → VK → Prop := fun xs H Q => rLen K xs H Q ∨ rLenS xs H Q
theorem kcall_lenA (h : X.K = K := by rfl) : CallR X (.builtin "len") (rLenA K) := by
  intro pins s σ H xs us Q I r q
  rcases q with q | q
  · exact kcall_len K h pins s σ H xs us Q I r q
  · exact kcall_lenS pins s σ H xs us Q I r q
def rInt : List V → Hp → VK → Prop := fun xs H Q => ∃ i, xs = [.int i] ∧ Q (.int i) H
theorem kcall_int : CallR X (.type "int") rInt := fun pins s σ H xs us Q I r q => call_int1 pins s σ H xs us Q I r (.inl q)
def rAbs : List V → Hp → VK → Prop := fun xs H Q => ∃ i, xs = [.int i] ∧ Q (.int (if i < 0 then -i else i)) H
theorem kcall_abs : CallR X (.builtin "abs") rAbs := call_abs
def rListOf (K : PySem.W.Frag) : List V → Hp → VK → Prop := fun xs H Q => ∃ p ys, xs = [.ref p] ∧ (SqL K H p ys ∨ SqT K H p ys) ∧ ∀ l, H l = none → Q (.ref l) (upd H l (.lst ys))
theorem kcall_list (h : X.K = K := by rfl) : CallR X (.type "list") (rListOf K) := h ▸ call_list_of
theorem kcr_all (hc : X.calm = true := by rfl) (h : X.K = K := by rfl) : CallR X (.builtin "all") (rAll K) := h ▸ cr_all hc
theorem kcr_max (hc : X.calm = true := by rfl) (h : X.K = K := by rfl) : CallR X (.builtin "max") (rMax K) := h ▸ cr_max hc
theorem kcr_sortedI (h : X.K = K := by rfl) : CallR X (.builtin "sorted") (rSortedI K) := h ▸ cr_sortedI
theorem kcr_sortT (d : Nat) (B : Int) (hd : 1 ≤ d) (h : X.K = K := by rfl) : CallR X (.builtin "sorted") (rSortU K d B) := h ▸ cr_sortT hd
theorem kcall_isi (h : X.K = K := by rfl) : CallR X (.builtin "isinstance") (rIsi K) := h ▸ call_isi
theorem kcall_isiT (h : X.K = K := by rfl) : CallR X (.builtin "isinstance") (rIsiT K) := h ▸ call_isiT
theorem kop_in (h : X.K = K := by rfl) : OpR X (compareOp .In) (rIn K false) := h ▸ op_in_seq
theorem kop_notIn (h : X.K = K := by rfl) : OpR X (compareOp .NotIn) (rIn K true) := h ▸ op_notIn_seq
theorem kop_eqD (hu : X.A.units + 64 < cLine) (h : X.K = K := by rfl) : OpR X (compareOp .Eq) (rEqD K) := h ▸ op_eqD hu
theorem kop_neD (hu : X.A.units + 64 < cLine) (h : X.K = K := by rfl) : OpR X (compareOp .NotEq) (rNeD K) := h ▸ op_neD hu
theorem kop_notInTD (hu : X.A.units + 65 < cLine) (h : X.K = K := by rfl) : OpR X (compareOp .NotIn) (rInTD K true) := h ▸ op_notInTD hu
theorem kop_catA (h : X.K = K := by rfl) : OpR X (binaryOp .Add) (rCatA K) := h ▸ op_catA
theorem ksl_list (h : X.K = K := by rfl) : SlR X (rSlL K) := h ▸ sl_list
theorem ksl_tupA (h : X.K = K := by rfl) : SlR X (rSlA K) := h ▸ sl_tupA
theorem kmt_index (h : X.K = K := by rfl) : MtR X "list.index" (rIndex K) := h ▸ mt_index
theorem kpi_tup {tg l : Expr} {tl : TE} (hl : PE X l tl) (h : X.K = K := by rfl) : PI X tg l (iTup K tl) := h ▸ pi_tup hl
theorem kpi_list {tg l : Expr} {tl : TE} (hl : PE X l tl) (h : X.K = K := by rfl) : PI X tg l (iList K tl) := h ▸ pi_list hl
theorem kpi_any {tg l : Expr} {tl : TE} (hl : PE X l tl) (h : X.K = K := by rfl) : PI X tg l (iAny K tl) := h ▸ pi_any hl
theorem kpe_idxI {o e : Expr} {es : List Expr} {to : TE} {t : TA} {apos cpos : Pos} (ho : PE X o to) (ha : PA X (e :: es) t)
    (hbase : attributeBase o "index" X.env (eval o X.env) = eval o X.env := by rfl)
    (hfew : ((backTo cpos (starEach (e :: es) X.env)).all (fun x => !x.1) && (backToKw cpos (keywordEach [] X.env)).all (fun x => x.1.isSome) && decide ((e :: es).length + ([] : List Keyword).length + (if ([] : List Keyword).isEmpty then 0 else 1) < 30)) = true := by rfl)
    (hline : (apos.endLine == cpos.line) = true := by rfl) (hs : starEach (e :: es) X.env = (false, eval e X.env) :: starEach es X.env := by rfl) (hplain : (backTo cpos (starEach es X.env)).any (·.1) = false := by rfl) (h : X.K = K := by rfl) :
    PE X (.Call (.Attribute o "index" apos) (e :: es) [] cpos) (tIdxI K to t) := h ▸ pe_idxI ho ha hbase hfew hline hs hplain
theorem kix_any (h : X.K = K := by rfl) : IxR X (rIx K) := h ▸ ix_seq
theorem kpe_fld {e : Expr} {f : Str} {ta : TE} {pos : Pos} (he : PE X e ta) (hb : attributeBase e f X.env (eval e X.env) = eval e X.env := by rfl) (h : X.K = K := by rfl) : PE X (.Attribute e f pos) (tFld K ta f) := h ▸ pe_fld he hb
theorem kps_fld {o value : Expr} {f : Str} {ta tv : TE} {pos pos' : Pos} (ha : PE X o ta) (hv : PE X value tv) (hs : swapsWith value (some (.Attribute o f pos')) pos.line X.env = pure false := by rfl) (h : X.K = K := by rfl) : PS X (.Assign [.Attribute o f pos'] value pos) (sFld K ta tv f) := h ▸ ps_fld ha hv hs
theorem kpe_tupleOf {a : Expr} {ta : TE} {p pos : Pos} (hg : Gl X "tuple") (hm : X.mg "tuple" = none) (ha : PE X a ta) (na : starEach [a] X.env = (false, eval a X.env) :: starEach [] X.env := by rfl) (h : X.K = K := by rfl) :
    PE X (.Call (.Name "tuple" p) [a] [] pos) (tThen ta (kTup K)) := h ▸ pe_tupleOf hg hm ha na
theorem kpe_tupleF {a : Expr} {ta : TE} {p pos : Pos} (hg : Gl X "tuple") (hm : X.mg "tuple" = none) (ha : PE X a ta) (na : starEach [a] X.env = (false, eval a X.env) :: starEach [] X.env := by rfl) (h : X.K = K := by rfl) :
    PE X (.Call (.Name "tuple" p) [a] [] pos) (tThen ta (kTupF K)) := h ▸ pe_tupleF hg hm ha na
theorem kpe_bm {T id : String} {name : Str} {o e : Expr} {es : List Expr} {to : TE} {t : TA} {r : V → List V → Hp → VK → Prop} {apos cpos : Pos} (pa : PlainAttrs T) (slot : Slot T name id) (hty : typeOf (.builtin id) = pure (.type "method_descriptor")) (hm : MtR X id r) (ho : PE X o to) (ha : PA X (e :: es) t)
    (hbase : attributeBase o name X.env (eval o X.env) = eval o X.env := by rfl)
    (hfew : ((backTo cpos (starEach (e :: es) X.env)).all (fun x => !x.1) && (backToKw cpos (keywordEach [] X.env)).all (fun x => x.1.isSome) && decide ((e :: es).length + ([] : List Keyword).length + (if ([] : List Keyword).isEmpty then 0 else 1) < 30)) = true := by rfl)
    (hline : (apos.endLine == cpos.line) = true := by rfl) (hs : starEach (e :: es) X.env = (false, eval e X.env) :: starEach es X.env := by rfl) (hplain : (backTo cpos (starEach es X.env)).any (·.1) = false := by rfl) (h : X.K = K := by rfl) :
    PE X (.Call (.Attribute o name apos) (e :: es) [] cpos) (tBM K T r to t) := h ▸ pe_bm pa slot hty hm ho ha hbase hfew hline hs hplain
theorem kpg_tup {es : List Expr} {kk : Nat} {t : TGs} {n : Nat} {pos : Pos} (hc : X.calm = true) (h : PGs X es t) (hn : (assignEach es X.env).length = n := by rfl) (hst : (assignEach es X.env).findIdx? (·.1) = none := by rfl) (hK : X.K = K := by rfl) : PG X (.Tuple es kk pos) (gTup K n t) := hK ▸ pg_tup hc h hn hst
theorem kpi_enum {e : Expr} {ta : TA} {p pos tpos : Pos} {elts : List Expr} {kk : Nat} (hg : Gl X "enumerate") (hm : X.mg "enumerate" = none) (ha : PA X [e] ta) (hs : starEach [e] X.env = [(false, eval e X.env)] := by rfl) (hK : X.K = K := by rfl) :
    PI X (.Tuple elts kk tpos) (.Call (.Name "enumerate" p) [e] [] pos) (iEnum K ta) := by subst hK; exact pi_enum hg hm ha hs
theorem kpi_enumT {e : Expr} {ta : TA} {p pos tpos : Pos} {elts : List Expr} {kk : Nat} (hg : Gl X "enumerate") (hm : X.mg "enumerate" = none) (ha : PA X [e] ta) (hs : starEach [e] X.env = [(false, eval e X.env)] := by rfl) (hK : X.K = K := by rfl) :
    PI X (.Tuple elts kk tpos) (.Call (.Name "enumerate" p) [e] [] pos) (iEnumT K ta) := by subst hK; exact pi_enumT hg hm ha hs
theorem kpi_zip {e e2 : Expr} {ta : TA} {p pos tpos : Pos} {elts : List Expr} {kk : Nat} (hg : Gl X "zip") (hm : X.mg "zip" = none) (ha : PA X [e, e2] ta)
    (hs : starEach [e, e2] X.env = (false, eval e X.env) :: starEach [e2] X.env := by rfl) (hpl : (backTo pos (starEach [e2] X.env)).any (·.1) = false := by rfl) (hK : X.K = K := by rfl) :
    PI X (.Tuple elts kk tpos) (.Call (.Name "zip" p) [e, e2] [] pos) (iZip K ta) := by subst hK; exact pi_zip hg hm ha hs hpl
theorem kpi_zipM {e e2 : Expr} {ta : TA} {p pos tpos : Pos} {elts : List Expr} {kk : Nat} (hg : Gl X "zip") (hm : X.mg "zip" = none) (ha : PA X [e, e2] ta)
    (hs : starEach [e, e2] X.env = (false, eval e X.env) :: starEach [e2] X.env := by rfl) (hpl : (backTo pos (starEach [e2] X.env)).any (·.1) = false := by rfl) (hK : X.K = K := by rfl) :
    PI X (.Tuple elts kk tpos) (.Call (.Name "zip" p) [e, e2] [] pos) (iZipM K ta) := by subst hK; exact pi_zipM hg hm ha hs hpl
theorem kpi_revA {tg e : Expr} {te : TE} {p pos : Pos} (hg : Gl X "reversed") (hm : X.mg "reversed" = none) (he : PE X e te) (hs : starEach [e] X.env = (false, eval e X.env) :: starEach [] X.env := by rfl) (hK : X.K = K := by rfl) :
    PI X tg (.Call (.Name "reversed" p) [e] [] pos) (RT.iRevA K te) := by subst hK; exact RT.pi_revA hg hm he hs
def rDictF (K : PySem.W.Frag) : List V → Hp → VK → Prop := fun xs H Q => ∃ (a : Addr) (ps : List Addr) (kvs : List (Key × V)), xs = [.ref a] ∧ PlT H a (ps.map V.ref) ∧ Paired (fun p kv => SqT K H p [kV kv.1, kv.2]) ps kvs ∧ ∀ p, H p = none → Q (.ref p) (upd H p (.dK (mergeK [] kvs)))
theorem kcall_dictF (hc : X.calm = true) (hK : X.K = K := by rfl) : CallR X (.type "dict") (rDictF K) := by subst hK; exact call_dictF hc
def rDictP (K : PySem.W.Frag) : List V → Hp → VK → Prop := fun xs H Q => ∃ (a : Addr) (ps : List Addr) (kvs : List (Key × V)), xs = [.ref a] ∧ SqL K H a (ps.map V.ref) ∧ Paired (fun p kv => SqT K H p [kV kv.1, kv.2]) ps kvs ∧ ∀ p, H p = none → Q (.ref p) (upd H p (.dK (mergeK [] kvs)))
theorem kcall_dictP (hc : X.calm = true) (hK : X.K = K := by rfl) : CallR X (.type "dict") (rDictP K) := by subst hK; exact call_dictP hc
def rListT : List V → Hp → VK → Prop := fun xs H Q => ∃ d kvs, xs = [V.ref d] ∧ Rd H d (.dT kvs) ∧ ∀ p bs, H p = none → IsKeys H kvs bs → Q (.ref p) (upd H p (.lst (bs.map V.ref)))
theorem kcall_list_dT (hc : X.calm = true) : CallR X (.type "list") rListT := call_list_dT hc
theorem kcr_reprL (gd : X.A.guards = some []) (hu : X.A.units + 64 < cLine) (hK : X.K = K := by rfl) : CallR X (.builtin "repr") (rReprL K) := by subst hK; exact cr_reprL gd hu
theorem klenSetT {a : Expr} {ta : TE} {p p2 q pos : Pos} (hg : Gl X "len") (hm : X.mg "len" = none) (hg2 : Gl X "set") (hm2 : X.mg "set" = none) (ha : PE X a ta) (hc : X.calm = true := by rfl)
    (na : starEach [a] X.env = (false, eval a X.env) :: starEach [] X.env := by rfl) (hK : X.K = K := by rfl) : PE X (.Call (.Name "len" p) [.Call (.Name "set" p2) [a] [] q] [] pos) (tLenSetT K ta) := by subst hK; exact pe_lenSetT hg hm hg2 hm2 ha hc na
theorem kpe_idxF {o e : Expr} {es : List Expr} {to : TE} {t : TA} {apos cpos : Pos} (ho : PE X o to) (ha : PA X (e :: es) t)
    (hbase : attributeBase o "index" X.env (eval o X.env) = eval o X.env := by rfl)
    (hfew : ((backTo cpos (starEach (e :: es) X.env)).all (fun x => !x.1) && (backToKw cpos (keywordEach [] X.env)).all (fun x => x.1.isSome) && decide ((e :: es).length + ([] : List Keyword).length + (if ([] : List Keyword).isEmpty then 0 else 1) < 30)) = true := by rfl)
    (hline : (apos.endLine == cpos.line) = true := by rfl) (hs : starEach (e :: es) X.env = (false, eval e X.env) :: starEach es X.env := by rfl) (hplain : (backTo cpos (starEach es X.env)).any (·.1) = false := by rfl) (h : X.K = K := by rfl) :
    PE X (.Call (.Attribute o "index" apos) (e :: es) [] cpos) (tIdxF K to t) := h ▸ pe_idxF ho ha hbase hfew hline hs hplain
def gGetL (K : PySem.W.Frag) : R2 := fun x y H Q => ∃ p xs j v, x = .ref p ∧ y = .int (j : Nat) ∧ SqL K H p xs ∧ xs[j]? = some v ∧ Q v H
theorem kget_list (h : X.K = K := by rfl) : PGet X (gGetL K) := by subst h; exact get_list
theorem kpe_revL {e : Expr} {te : TE} {k : Nat} {p1 p2 p3 pos : Pos} (he : PE X e te) (h : X.K = K := by rfl) : PE X (.Subscript e (.Slice none none (some (.UnaryOp .USub (.Constant (.int 1) k p1) p2)) p3) pos) (tRevL K te) := by subst h; exact pe_revL he
/-- sets, with the world named -/
theorem kcr_set0 (w : World) (h : X.w = w := by rfl) : CallR X (.type "set") (rSet0 w) := by subst h; exact cr_set0
theorem kor_sin (w : World) (h : X.w = w := by rfl) : OpR X (compareOp .In) (rSIn w) := by subst h; exact or_sin
theorem kor_snotin (w : World) (h : X.w = w := by rfl) : OpR X (compareOp .NotIn) (rSNotIn w) := by subst h; exact or_snotin
theorem kpe_sadd (w : World) {o e : Expr} {es : List Expr} {to : TE} {t : TA} {apos cpos : Pos} (ho : PE X o to) (ha : PA X (e :: es) t)
    (hbase : attributeBase o "add" X.env (eval o X.env) = eval o X.env := by rfl)
    (hfew : ((backTo cpos (starEach (e :: es) X.env)).all (fun x => !x.1) && (backToKw cpos (keywordEach [] X.env)).all (fun x => x.1.isSome)
      && decide ((e :: es).length + ([] : List Keyword).length + (if ([] : List Keyword).isEmpty then 0 else 1) < 30)) = true := by rfl)
    (hline : (apos.endLine == cpos.line) = true := by rfl) (hs : starEach (e :: es) X.env = (false, eval e X.env) :: starEach es X.env := by rfl) (hplain : (backTo cpos (starEach es X.env)).any (·.1) = false := by rfl) (h : X.w = w := by rfl) :
    PE X (.Call (.Attribute o "add" apos) (e :: es) [] cpos) (tSAdd w to t) := by subst h; exact pe_sadd ho ha hbase hfew hline hs hplain
theorem kcr_setL (w : World) (hc : X.calm = true) (h : X.K = K := by rfl) (h2 : X.w = w := by rfl) : CallR X (.type "set") (rSetL K w) := by subst h; subst h2; exact cr_setL hc
theorem kcr_sortedSet (w : World) (hc : X.calm = true) (h2 : X.w = w := by rfl) : CallR X (.builtin "sorted") (rSortedSet w) := by subst h2; exact cr_sortedSet hc
end
def ipD : TIp := fun x y H Q => ∃ i j : Int, x = .int i ∧ y = .int j ∧ 0 < j ∧ j < 1073741824 ∧ Q (.int (i / j)) H
theorem ip_fdiv {X : Cx} : PIp X .FloorDiv ipD := by
  intro pins s σ H x y v u Q I r1 r2 h
  obtain ⟨i, j, e1, e2, h1, h2, q⟩ := h
  subst e1; subst e2
  obtain ⟨t, rfl⟩ := r1
  obtain ⟨t', rfl⟩ := r2
  exact ifloordiv_int (by omega) (by rw [Int.fdiv_eq_ediv_of_nonneg i (by omega)]; exact ⟨.int _, H, I.tok _, ⟨_, rfl⟩, q⟩) (.inl (PyProof.noPylong_small (by omega)))
/-- no call of it is meant -/
theorem no_ok {K : PySem.W.Frag} {P : Program} {w : World} {mg : Str → Option Value} {base : Heap} (f : Addr) (fd : FuncData) (ps : List Str) : FnOk P w K mg base CX0 0 f fd ps (fun _ _ _ _ => False) := ⟨fun _ _ _ _ h => h.elim, fun _ _ _ _ _ _ _ _ _ _ _ _ _ h => h.elim⟩
end Eo
/-! more lemmas of the walk; what stands on the heap -/
namespace Eo
open PySem PyProof.Rows L2 L2.DX
section
variable {K : PySem.W.Frag} {σ : L2.St} {H : Hp} {Q : VK} {x y : V}
theorem r_isi {a b : String} {r : Bool} (hx : TyX K H x (.type a)) (hk : kitB a b = some r) (k : Q (.bl r) H) : rIsi K [x, .ty b] H Q := ⟨x, .ty b, .type a, .type b, r, rfl, .ty b, hx, kit_ty hk, k⟩
theorem r_isiLT {a : String} {tp : Addr} (ht : H tp = some (.tup [.ty "list", .ty "tuple"])) (hx : TyX K H x (.type a)) (ha : a = "list" ∨ a = "tuple") (k : Q (.bl true) H) : rIsiT K [x, .ref tp] H Q := by
  refine ⟨x, tp, _, .type a, [.type "list", .type "tuple"], true, rfl, ht, .cons (.ty _) (.cons (.ty _) .nil), hx, ?_, k⟩
  rcases ha with rfl | rfl
  · exact kitAny_cons (kit_ty (r := true) (by decide +kernel)) (fun h => nomatch h) (fun _ => rfl)
  · exact kitAny_cons (kit_ty (r := false) (by decide +kernel)) (fun _ => kitAny_cons (kit_ty (r := true) (by decide +kernel)) (fun h => nomatch h) (fun _ => rfl)) (fun h => nomatch h)
theorem ty_tup {p : Addr} {xs : List V} (h : H p = some (.tup xs)) : TyX K H (.ref p) (.type "tuple") := .base (.tup h)
theorem ty_plT {p : Addr} {xs : List V} (h : PlT H p xs) : TyX K H (.ref p) (.type "tuple") := let ⟨_, e, _⟩ := h; .fTuple e
theorem ty_lst {p : Addr} {xs : List V} (h : H p = some (.lst xs)) : TyX K H (.ref p) (.type "list") := .base (.lst h)
/-- numbers as values -/
def encI (f : List Nat) : List V := f.map fun (n : Nat) => V.int (n : Int)
theorem encI_len (f : List Nat) : (encI f).length = f.length := List.length_map _
theorem encI_get {f : List Nat} {i : Nat} (h : i < f.length) : (encI f)[i]? = some (V.int (ap f i : Nat)) := by
  unfold encI
  rw [List.getElem?_map, ap_get h]
  rfl
theorem encI_at {f : List Nat} {i : Nat} {v : V} (h : (encI f)[i]? = some v) : i < f.length ∧ v = V.int (ap f i : Nat) := by
  have hi : i < f.length := by
    have := (List.getElem?_eq_some_iff.mp h).1
    rw [encI_len] at this
    exact this
  rw [encI_get hi] at h
  exact ⟨hi, (Option.some.inj h).symm⟩
/-- an item of a tuple of numbers -/
theorem r_ixE {p : Addr} {f : List Nat} {n : Nat} (h : SqT K H p (encI f)) (hn : n < f.length) (k : Q (.int (ap f n : Nat)) H) : rIxT K (.ref p) (.int (n : Int)) H Q := r_ixT h (atI_ok (encI_get hn)) k
theorem r_ixEL {p : Addr} {f : List Nat} {n : Nat} (h : SqL K H p (encI f)) (hn : n < f.length) (k : Q (.int (ap f n : Nat)) H) : rIxL K (.ref p) (.int (n : Int)) H Q := r_ixL h (atI_ok (encI_get hn)) k
theorem r_lenT {p : Addr} {xs : List V} (h : SqT K H p xs) (k : Q (.int xs.length) H) : rLen K [.ref p] H Q := ⟨p, xs, rfl, .inr h, k⟩
theorem r_lenL {p : Addr} {xs : List V} (h : SqL K H p xs) (k : Q (.int xs.length) H) : rLen K [.ref p] H Q := ⟨p, xs, rfl, .inl h, k⟩
theorem r_mod {a b : Int} (hb : 0 < b) (k : Q (.int (a % b)) H) : rI (fun _ j => 0 < j) (fun i j => .int (i % j)) (.int a) (.int b) H Q := ⟨a, b, rfl, rfl, hb, k⟩
theorem r_div {a b : Int} (hb : 0 < b) (h2 : b < 1073741824) (k : Q (.int (a / b)) H) : rI CDiv (fun i j => .int (i / j)) (.int a) (.int b) H Q := ⟨a, b, rfl, rfl, ⟨hb, h2⟩, k⟩
theorem r_mulR {a b : Int} (h1 : -(2 ^ 64) < b) (h2 : b < 2 ^ 64) (k : Q (.int (a * b)) H) : rI CMul (fun i j => .int (i * j)) (.int a) (.int b) H Q := ⟨a, b, rfl, rfl, .inr ⟨h1, h2⟩, k⟩
theorem r_mulL {a b : Int} (h1 : -(2 ^ 64) < a) (h2 : a < 2 ^ 64) (k : Q (.int (a * b)) H) : rI CMul (fun i j => .int (i * j)) (.int a) (.int b) H Q := ⟨a, b, rfl, rfl, .inl ⟨h1, h2⟩, k⟩
theorem g_nm {R : L2.St → Hp → Prop} {i : Nat} {v : V} (k : R (σ.set i (some v)) H) : gName i v σ H R := k
theorem r_eqI {a b : Int} (k : Q (.bl (decide (a = b))) H) : rEq (.int a) (.int b) H Q := ⟨rfl, by
  have : decide (V.int a = V.int b) = decide (a = b) := by simp
  rw [this]
  exact k⟩
theorem r_neI {a b : Int} (k : Q (.bl (!decide (a = b))) H) : rNe (.int a) (.int b) H Q := ⟨rfl, by
  have : decide (V.int a = V.int b) = decide (a = b) := by simp
  rw [this]
  exact k⟩
theorem r_isN (k : Q (.bl (decide (x = .non))) H) : (fun x y H (Q : VK) => y = V.non ∧ Q (.bl (decide (x = .non))) H) x .non H Q := ⟨rfl, k⟩
end
end Eo
namespace Eo
open PySem PyProof.Rows L2 L2.DX
/-! words of the walk: wp goes on where nothing is open; hl looks an object up; ex: what stood stands -/
local macro_rules | `(tactic| walk_at "hl") => `(tactic| first | assumption | exact PlT.sq (by assumption) | (refine stT ?_; walk_at "hl") | (refine stL ?_; walk_at "hl") | (refine Ex.at (by assumption) ?_; walk_at "hl") | (refine Mu.tup (by assumption) ?_; walk_at "hl") | (refine Ex.sqT (by assumption) ?_; walk_at "hl") | (refine Ex.sqL (by assumption) ?_; walk_at "hl") | (refine Ex.plT (by assumption) ?_; walk_at "hl") | (refine Mu.plT (by assumption) ?_; walk_at "hl"))
local macro_rules | `(tactic| walk_at "ex") => `(tactic| first | assumption | exact Ex.refl _ | (refine Ex.trans ?_ (by assumption); walk_at "ex") | (refine Ex.mu ?_ (by assumption) (by first | assumption | walk_at "fr"); walk_at "ex"))
local macro_rules | `(tactic| walk_at "fr") => `(tactic| first | assumption | (refine Ex.free (by assumption) ?_; walk_at "fr"))
local macro_rules | `(tactic| walk_at "rf") => `(tactic| with_unfolding_all rfl)
local macro_rules | `(tactic| walk_at "wp") => `(tactic| repeat (with_reducible first
  | refine q_seq ?_ | refine q_asg ?_ | refine q_ret ?_ | refine q_drop ?_ | refine q_if ?_ | refine q_next ?_ | refine q_par ?_ | refine q_par3 ?_ | refine q_retN ?_ | refine q_cont ?_ | refine q_brk ?_
  | refine e_var (by with_unfolding_all rfl) ?_ | refine e_c ?_ | refine e_op ?_ | refine e_cons ?_ | refine e_nil ?_ | refine e_test ?_ | refine e_B ?_ | refine e_yes ?_ | refine e_cb ?_ | refine e_call ?_ | refine e_then ?_ | refine e_tup ?_ | refine e_lst ?_
  | refine x_bl ?_ | refine i_T ?_ | refine i_F ?_ | refine x_two ?_ | refine x_three ?_
  | refine r_I0 ?_ | refine r_add ?_ | refine r_ip ?_ | refine g_nm ?_ | refine r_eqI ?_ | refine r_neI ?_ | refine r_eq (by with_unfolding_all rfl) ?_ | refine r_ne (by with_unfolding_all rfl) ?_
  | refine e_not ?_ | refine e_and ?_ | refine e_or ?_ | refine e_andV ?_ | refine e_orV ?_ | refine e_notV ?_ | refine e_ifx ?_ | refine e_idxF ?_ | refine e_idxI ?_ | refine e_sl ?_ | refine e_part ?_ | refine e_nopart ?_ | refine f_revA ?_ | refine e_lenSet ?_ | refine l_dcT ?_ | refine e_sadd ?_ | refine q_asgS ?_ | refine q_augS ?_ | refine e_tupRg ?_ | refine e_lstRg ?_ | refine e_rg1 ?_ | refine e_rg2 ?_ | refine e_dget ?_ | refine e_din ?_ | refine e_dnotin ?_ | refine e_dget2 ?_ | refine q_dput ?_ | refine e_un ?_ | refine e_chain ?_ | refine e_bm ?_ | refine e_bm0 ?_ | refine e_fld ?_ | refine q_asgT ?_
  | refine l_any ?_ | refine l_tup ?_ | refine l_list ?_ | refine l_rng1 ?_ | refine l_rng2 ?_ | refine l_str ?_ | refine l_enumL ?_ | refine l_enumT ?_ | refine l_zip ?_ | refine l_zipM ?_
  | refine f_tup ?_ | refine f_list ?_ | refine f_rng1 ?_ | refine f_enumL ?_ | refine f_enumT ?_))
local macro_rules | `(tactic| walk_at "sz") => `(tactic| first | decide | (refine small ?_; simp; done) | (refine small ?_; simp; omega) | (refine smallL ?_; simp; done) | (refine smallL ?_; simp; omega) | (simp; done) | (simp; omega))
section
variable {P : Program} {w : World} {K : PySem.W.Frag} {mg : Str → Option Value} {base : Heap} {C : Addr} {A : Nat → Addr} {FD : Nat → FuncData}
def sp_is_integer : Sp := fun vs H Q _ => ∃ i : Int, vs = [.int i] ∧ Q (.bl true) H
theorem ok_is_integer (T : Tx K mg C A FD) : (FnOk P w K mg base CX0 1 (A 0) (FD 0) ["value"] sp_is_integer) := by
  refine T.d_is_integer.F.ok sc_is_integer (fun vs H Q E h => by obtain ⟨i, rfl, k⟩ := h; rfl) (fun cdv A0 outer s H vs Q E hr h => ?_)
  obtain ⟨i, rfl, k⟩ := h
  have hu := hu_of hr
  have hu64 := hr.units
  have hu2 : _ + 65 < cLine := (fun {A : Around} {k} (hr : Room k A) => (by have := hr.un; omega : A.units + 65 < cLine)) hr
  refine ⟨_, (pss_one (ps_ret (pe_and (pe_callB (kcall_isi K) (by rfl) T.z_isinstance (by decide +kernel) (pa_cons (pv 0) (pa_cons (pe_bltn (v := .ty "int") (by rfl) T.z_int (by decide +kernel) rfl) pa_nil))) (pe_one (pe_not (pe_callB (kcall_isi K) (by rfl) T.z_isinstance (by decide +kernel) (pa_cons (pv 0) (pa_cons (pe_bltn (v := .ty "bool") (by rfl) T.z_bool (by decide +kernel) rfl) pa_nil)))))))), ?_⟩
  clear hu hu64 hu2
  walk_at "wp"
  refine r_isi (.base (.int _)) (r := true) (by decide +kernel) ?_
  walk_at "wp"
  refine r_isi (.base (.int _)) (r := false) (by decide +kernel) ?_
  walk_at "wp"
  exact k
def sp_is_below : Sp := fun vs H Q _ => ∃ i j : Int, vs = [.int i, .int j] ∧ Q (.bl (decide (0 ≤ i ∧ i < j))) H
theorem ok_is_below (T : Tx K mg C A FD) : (FnOk P w K mg base CX0 2 (A 1) (FD 1) ["value", "bound"] sp_is_below) := by
  refine T.d_is_below.F.ok sc_is_below (fun vs H Q E h => by obtain ⟨i, j, rfl, k⟩ := h; rfl) (fun cdv A0 outer s H vs Q E hr h => ?_)
  obtain ⟨i, j, rfl, k⟩ := h
  have hu := hu_of hr
  have hu64 := hr.units
  have hu2 : _ + 65 < cLine := (fun {A : Around} {k} (hr : Room k A) => (by have := hr.un; omega : A.units + 65 < cLine)) hr
  refine ⟨_, (pss_one (ps_ret (pe_and (pe_call (ok_is_integer T) (hr.mono (by decide)) (by rfl) T.d_is_integer.g T.d_is_integer.F.kp T.d_is_integer.b .nil pass0 (pa_cons (pv 0) pa_nil)) (pe_one (pe_chain op_le op_lt pe_int (pv 0) (pv 1)))))), ?_⟩
  clear hu hu64 hu2
  walk_at "wp"
  refine ⟨i, rfl, ?_⟩
  walk_at "wp"
  refine i_d (fun h => ?_) (fun h => ?_)
  · walk_at "wp"
    have e : decide (i < j) = decide (0 ≤ i ∧ i < j) := by simp [h]
    rw [e]
    exact k
  · have e : false = decide (0 ≤ i ∧ i < j) := by simp [h]
    rw [e]
    exact k
def sp_is_text : Sp := fun vs H Q _ => ∃ z : Str, vs = [.str z] ∧ Q (.bl true) H
theorem ok_is_text (T : Tx K mg C A FD) : (FnOk P w K mg base CX0 1 (A 2) (FD 2) ["value"] sp_is_text) := by
  refine T.d_is_text.F.ok sc_is_text (fun vs H Q E h => by obtain ⟨z, rfl, k⟩ := h; rfl) (fun cdv A0 outer s H vs Q E hr h => ?_)
  obtain ⟨z, rfl, k⟩ := h
  have hu := hu_of hr
  have hu64 := hr.units
  have hu2 : _ + 65 < cLine := (fun {A : Around} {k} (hr : Room k A) => (by have := hr.un; omega : A.units + 65 < cLine)) hr
  refine ⟨_, (pss_one (ps_ret (pe_callB (kcall_isi K) (by rfl) T.z_isinstance (by decide +kernel) (pa_cons (pv 0) (pa_cons (pe_bltn (v := .ty "str") (by rfl) T.z_str (by decide +kernel) rfl) pa_nil))))), ?_⟩
  clear hu hu64 hu2
  walk_at "wp"
  exact r_isi (.base (.str _)) (r := true) (by decide +kernel) k
def sp_is_sequence : Sp := fun vs H Q _ => ∃ p xs, vs = [.ref p] ∧ (H p = some (.lst xs) ∨ H p = some (.tup xs)) ∧ ∀ H', Ex H H' → Q (.bl true) H'
theorem ok_is_sequence (T : Tx K mg C A FD) : (FnOk P w K mg base CX0 1 (A 3) (FD 3) ["value"] sp_is_sequence) := by
  refine T.d_is_sequence.F.ok sc_is_sequence (fun vs H Q E h => by obtain ⟨p, xs, rfl, hp, k⟩ := h; rfl) (fun cdv A0 outer s H vs Q E hr h => ?_)
  obtain ⟨p, xs, rfl, hp, k⟩ := h
  have hu := hu_of hr
  have hu64 := hr.units
  have hu2 : _ + 65 < cLine := (fun {A : Around} {k} (hr : Room k A) => (by have := hr.un; omega : A.units + 65 < cLine)) hr
  refine ⟨_, (pss_one (ps_ret (pe_callB (kcall_isiT K) (by rfl) T.z_isinstance (by decide +kernel) (pa_cons (pv 0) (pa_cons (pe_tup (pa_cons (pe_bltn (v := .ty "list") (by rfl) T.z_list (by decide +kernel) rfl) (pa_cons (pe_bltn (v := .ty "tuple") (by rfl) T.z_tuple (by decide +kernel) rfl) pa_nil))) pa_nil))))), ?_⟩
  clear hu hu64 hu2
  walk_at "wp"
  refine al (by decide) fun q H1 _ e hq => ?_
  rcases hp with hp | hp
  · exact r_isiLT hq (ty_lst (e _ _ hp)) (.inl rfl) (k _ e)
  · exact r_isiLT hq (ty_tup (e _ _ hp)) (.inr rfl) (k _ e)
/-- a name: one to eight letters -/
def isName (z : Str) : Prop := 1 ≤ z.length ∧ z.length ≤ 8 ∧ ∀ c ∈ z.cps.toList, 97 ≤ c ∧ c ≤ 122
def sp_is_name : Sp := fun vs H Q _ => ∃ z : Str, vs = [.str z] ∧ isName z ∧ ∀ H', Ex H H' → Q (.bl true) H'
theorem ok_is_name (T : Tx K mg C A FD) : (FnOk P w K mg base CX0 2 (A 4) (FD 4) ["value"] sp_is_name) := by
  refine T.d_is_name.F.ok sc_is_name (fun vs H Q E h => by obtain ⟨z, rfl, hz, k⟩ := h; rfl) (fun cdv A0 outer s H vs Q E hr h => ?_)
  obtain ⟨z, rfl, hz, k⟩ := h
  obtain ⟨_, g_LETTERS⟩ := T.g_LETTERS
  obtain ⟨_, g_LONGEST⟩ := T.g_LONGEST
  have hu := hu_of hr
  have hu64 := hr.units
  have hu2 : _ + 65 < cLine := (fun {A : Around} {k} (hr : Room k A) => (by have := hr.un; omega : A.units + 65 < cLine)) hr
  refine ⟨_, (pss_one (ps_ret (pe_and (pe_call (ok_is_text T) (hr.mono (by decide)) (by rfl) T.d_is_text.g T.d_is_text.F.kp T.d_is_text.b .nil pass0 (pa_cons (pv 0) pa_nil)) (pe_and (pe_chain op_le op_le pe_int (pe_callB kcall_lenS (by rfl) T.z_len (by decide +kernel) (pa_cons (pv 0) pa_nil)) (pe_glob (v := .int 8) (by rfl) g_LONGEST ⟨_, rfl⟩)) (pe_one (pe_callB (kcr_all K) (by rfl) T.z_all (by decide +kernel) (pa_cons (pe_lc rfl sc_is_name.nd (pi_str (pv 0)) (blkOk_by (own := [("sign", 1)]) (N := N_is_name) (sc := defScope s_is_name) (by decide +kernel)) (fun _ _ _ _ _ => (pg_name (i := 1) sc_is_name.nd rfl (by first | exact .inl rfl | exact .inr rfl))) (fun _ _ _ _ _ => pts_nil) (fun _ _ _ _ _ => (pe_cmpR op_in_sign (pv 1) (pe_glob (v := .str "abcdefghijklmnopqrstuvwxyz") (by rfl) g_LETTERS ⟨_, rfl⟩) rfl))) pa_nil))))))), ?_⟩
  clear hu hu64 hu2
  walk_at "wp"
  refine ⟨z, rfl, ?_⟩
  walk_at "wp"
  obtain ⟨h1, h2, h3⟩ := hz
  refine ⟨z, rfl, small (by omega), ?_⟩
  walk_at "wp"
  refine i_dT (by omega) ?_
  walk_at "wp"
  refine i_dT (by omega) ?_
  walk_at "wp"
  have hs : z.length = z.cps.size := rfl
  refine ⟨z, rfl, lc_V (List.replicate z.cps.size (.bl true)) wk_str (by omega) (by simp) (fun i x y H1 H2 hy e hx R hR => ?_) fun D H1 hD e hDl => ?_⟩
  · obtain ⟨rfl, c, hc, rfl⟩ := hx
    refine ⟨rfl, ?_⟩
    walk_at "wp"
    refine ⟨c, _, rfl, rfl, ?_⟩
    have hy2 : y = .bl true := by
      rw [List.getElem?_replicate] at hy
      split at hy
      · exact (Option.some.inj hy).symm
      · cases hy
    subst hy2
    have hm : c ∈ z.cps.toList := by
      have := Array.mem_of_getElem? hc
      simpa using this
    obtain ⟨g1, g2⟩ := h3 c hm
    have : decide (c ∈ (Str.ofString "abcdefghijklmnopqrstuvwxyz").cps.toList) = true := by
      have : ∀ n, n < 26 → decide (n + 97 ∈ (Str.ofString "abcdefghijklmnopqrstuvwxyz").cps.toList) = true := by decide +kernel
      have h := this (c - 97) (by omega)
      rwa [show c - 97 + 97 = c by omega] at h
    rw [this]
    exact hR _ (Ex.refl _)
  · walk_at "wp"
    refine ⟨D, List.replicate z.cps.size true, rfl, stL (by rw [hDl, List.map_replicate]), ?_⟩
    have : (List.replicate z.cps.size true).all id = true := by simp
    rw [this]
    exact k _ e
def sp_common_divisor : Sp := fun vs H Q _ => ∃ i j : Nat, vs = [.int i, .int j] ∧ Q (.int (Nat.gcd i j : Nat)) H
theorem ok_common_divisor (T : Tx K mg C A FD) : (FnOk P w K mg base CX0 1 (A 5) (FD 5) ["one", "other"] sp_common_divisor) := by
  refine T.d_common_divisor.F.ok sc_common_divisor (fun vs H Q E h => by obtain ⟨i, j, rfl, k⟩ := h; rfl) (fun cdv A0 outer s H vs Q E hr h => ?_)
  obtain ⟨i, j, rfl, k⟩ := h
  have hu := hu_of hr
  have hu64 := hr.units
  have hu2 : _ + 65 < cLine := (fun {A : Around} {k} (hr : Room k A) => (by have := hr.un; omega : A.units + 65 < cLine)) hr
  refine ⟨_, (pss_cons (ps_while PassesOwn.never (pt_cmpR op_gt (pv 1) pe_int (nomark _)) (pss_one (ps_par (i := 0) (j := 1) rfl sc_common_divisor.nd rfl rfl (by decide) rfl rfl (pa_cons (pv 1) (pa_cons (pe_op op_mod (pv 0) (pv 1)) pa_nil)) rfl)))
    (pss_one (ps_ret (pv 0)))), ?_⟩
  clear hu hu64 hu2
  walk_at "wp"
  refine w_W (fun m σ H1 => H1 = H ∧ ∃ a b : Nat, σ = [some (.int a), some (.int b)] ∧ Nat.gcd a b = Nat.gcd i j ∧ m = b) j ⟨rfl, i, j, rfl, rfl, rfl⟩ (fun m σ H1 h => ?_)
  obtain ⟨rfl, a, b, rfl, hg, rfl⟩ := h
  walk_at "wp"
  refine i_d (fun hb => w_N ?_) (fun hb => ?_)
  · walk_at "wp"
    refine r_mod hb ?_
    walk_at "wp"
    exact ⟨a % m, Nat.mod_lt _ (by omega), rfl, m, a % m, rfl, by rw [← hg, Nat.gcd_comm a m, Nat.gcd_rec m a, Nat.gcd_comm], rfl⟩
  · walk_at "wp"
    have : m = 0 := by omega
    subst this
    rw [Nat.gcd_zero_right] at hg
    rw [hg]
    exact k
def sp_common_multiple : Sp := fun vs H Q _ => ∃ i j : Nat, vs = [.int i, .int j] ∧ 0 < i ∧ 0 < j ∧ j < 1000 ∧ Q (.int (Nat.lcm i j : Nat)) H
theorem ok_common_multiple (T : Tx K mg C A FD) : (FnOk P w K mg base CX0 2 (A 6) (FD 6) ["one", "other"] sp_common_multiple) := by
  refine T.d_common_multiple.F.ok sc_common_multiple (fun vs H Q E h => by obtain ⟨i, j, rfl, hi, hj, hj2, k⟩ := h; rfl) (fun cdv A0 outer s H vs Q E hr h => ?_)
  obtain ⟨i, j, rfl, hi, hj, hj2, k⟩ := h
  have hu := hu_of hr
  have hu64 := hr.units
  have hu2 : _ + 65 < cLine := (fun {A : Around} {k} (hr : Room k A) => (by have := hr.un; omega : A.units + 65 < cLine)) hr
  refine ⟨_, (pss_one (ps_ret (pe_op op_mul (pe_op op_fdiv (pv 0) (pe_call (ok_common_divisor T) (hr.mono (by decide)) (by rfl) T.d_common_divisor.g T.d_common_divisor.F.kp T.d_common_divisor.b .nil pass0 (pa_cons (pv 0) (pa_cons (pv 1) pa_nil)))) (pv 1)))), ?_⟩
  clear hu hu64 hu2
  walk_at "wp"
  refine ⟨i, j, rfl, ?_⟩
  have h1 : 0 < Nat.gcd i j := Nat.gcd_pos_of_pos_left _ hi
  have h2 : Nat.gcd i j ≤ j := Nat.gcd_le_right _ hj
  refine r_div (by omega) (by omega) ?_
  walk_at "wp"
  refine r_mulR (by omega) (by omega) ?_
  have : ((i : Int) / (Nat.gcd i j : Nat)) * j = (Nat.lcm i j : Nat) := by
    have : Nat.lcm i j = i / Nat.gcd i j * j := by
      unfold Nat.lcm
      rw [Nat.mul_comm i j, Nat.mul_div_assoc _ (Nat.gcd_dvd_left i j), Nat.mul_comm]
    rw [this]
    simp
  rw [this]
  exact k

end
end Eo
/-! rows and machines on the heap -/
namespace Eo
open PySem PyProof.Rows L2 L2.DX
namespace Row
variable {σ : Type}
def items : Row σ → List (σ ⊕ (Row σ × Nat))
  | nil => []
  | nm x r => .inl x :: r.items
  | pow i k r => .inr (i, k) :: r.items
def single : σ ⊕ (Row σ × Nat) → Row σ
  | .inl x => nm x nil
  | .inr (i, k) => pow i k nil
def pre : Row σ → Nat → Row σ
  | _, 0 => nil
  | nil, _ => nil
  | nm x r, n + 1 => nm x (r.pre n)
  | pow i k r, n + 1 => pow i k (r.pre n)
theorem pre_zero (r : Row σ) : r.pre 0 = nil := by cases r <;> rfl
theorem pre_succ : ∀ (r : Row σ) (n : Nat) {it : σ ⊕ (Row σ × Nat)}, r.items[n]? = some it → r.pre (n + 1) = (r.pre n).app (single it)
  | nil, n, it, h => by simp [items] at h
  | nm x r, 0, it, h => by
    simp [items] at h
    subst h
    show nm x (r.pre 0) = _
    rw [pre_zero, pre_zero]
    rfl
  | nm x r, n + 1, it, h => by
    simp only [items, List.getElem?_cons_succ] at h
    show nm x (r.pre (n + 1)) = nm x ((r.pre n).app (single it))
    rw [pre_succ r n h]
  | pow i k r, 0, it, h => by
    simp [items] at h
    subst h
    show pow i k (r.pre 0) = _
    rw [pre_zero, pre_zero]
    rfl
  | pow i k r, n + 1, it, h => by
    simp only [items, List.getElem?_cons_succ] at h
    show pow i k (r.pre (n + 1)) = pow i k ((r.pre n).app (single it))
    rw [pre_succ r n h]
theorem pre_all : ∀ r : Row σ, r.pre r.items.length = r
  | nil => rfl
  | nm x r => by show nm x (r.pre r.items.length) = _; rw [pre_all r]
  | pow i k r => by show pow i k (r.pre r.items.length) = _; rw [pre_all r]
theorem names_item {N : List σ} : ∀ {r : Row σ} {it : σ ⊕ (Row σ × Nat)}, r.Names N → it ∈ r.items → (single it).Names N
  | nil, it, h, m => by simp [items] at m
  | nm x r, it, h, m => by
    rcases List.mem_cons.mp m with rfl | m
    · exact ⟨h.1, trivial⟩
    · exact names_item h.2 m
  | pow i k r, it, h, m => by
    rcases List.mem_cons.mp m with rfl | m
    · exact ⟨h.1, trivial⟩
    · exact names_item h.2 m
theorem below_item {B : Nat} : ∀ {r : Row σ} {it : σ ⊕ (Row σ × Nat)}, r.Below B → it ∈ r.items → (single it).Below B
  | nil, it, h, m => by simp [items] at m
  | nm x r, it, h, m => by
    rcases List.mem_cons.mp m with rfl | m
    · trivial
    · exact below_item (r := r) h m
  | pow i k r, it, h, m => by
    rcases List.mem_cons.mp m with rfl | m
    · exact ⟨h.1, h.2.1, trivial⟩
    · exact below_item h.2.2 m
theorem depth_item : ∀ {r : Row σ} {i : Row σ} {k : Nat}, Sum.inr (i, k) ∈ r.items → i.depth + 1 ≤ r.depth
  | nil, i, k, m => by simp [items] at m
  | nm x r, i, k, m => by
    rcases List.mem_cons.mp m with e | m
    · cases e
    · exact depth_item (r := r) m
  | pow j l r, i, k, m => by
    show i.depth + 1 ≤ max (j.depth + 1) r.depth
    rcases List.mem_cons.mp m with e | m
    · cases e
      omega
    · have := depth_item (r := r) m
      omega
/-- how many parts, all in all at most -/
def wide (B : Nat) : Row σ → Prop
  | nil => True
  | nm _ r => r.items.length < B ∧ r.wide B
  | pow i _ r => r.items.length < B ∧ i.wide B ∧ r.wide B
end Row
/-- a row's parts -/
inductive Parts (H : Hp) : List V → Row Str → Prop
  | nil : Parts H [] .nil
  | nm {x : Str} {vs : List V} {r : Row Str} (t : Parts H vs r) : Parts H (.str x :: vs) (.nm x r)
  | pow {q p : Addr} {k : Nat} {ws vs : List V} {i r : Row Str} (hq : H q = some (.tup [.ref p, .int (k : Nat)])) (hp : H p = some (.tup ws)) (hi : Parts H ws i) (t : Parts H vs r) : Parts H (.ref q :: vs) (.pow i k r)
def Rw (H : Hp) (p : Addr) (r : Row Str) : Prop := ∃ vs, H p = some (.tup vs) ∧ Parts H vs r
theorem Parts.ei {H H' : Hp} {vs : List V} {r : Row Str} (h : Parts H vs r) (e : EI H H') : Parts H' vs r := by
  induction h with
  | nil => exact .nil
  | nm t ih => exact .nm ih
  | pow hq hp hi t ih1 ih2 => exact .pow (e.tup hq) (e.tup hp) ih1 ih2
theorem Rw.ei {H H' : Hp} {p : Addr} {r : Row Str} (h : Rw H p r) (e : EI H H') : Rw H' p r := let ⟨vs, h1, h2⟩ := h; ⟨vs, e.tup h1, h2.ei e⟩
theorem Rw.ex {H H' : Hp} {p : Addr} {r : Row Str} (h : Rw H p r) (e : Ex H H') : Rw H' p r := h.ei e.ei
theorem Parts.app {H : Hp} {vs ws : List V} {r s : Row Str} (h : Parts H vs r) (g : Parts H ws s) : Parts H (vs ++ ws) (r.app s) := by
  induction h with
  | nil => exact g
  | nm t ih => exact .nm ih
  | pow hq hp hi t ih1 ih2 => exact .pow hq hp hi ih2
theorem Parts.len {H : Hp} {vs : List V} {r : Row Str} (h : Parts H vs r) : vs.length = r.items.length := by
  induction h with
  | nil => rfl
  | nm t ih => show _ + 1 = _ + 1; rw [ih]
  | pow hq hp hi t ih1 ih2 => show _ + 1 = _ + 1; rw [ih2]
/-- one part -/
def PartAt (H : Hp) (v : V) : Str ⊕ (Row Str × Nat) → Prop
  | .inl x => v = .str x
  | .inr (i, k) => ∃ q p, v = .ref q ∧ H q = some (.tup [.ref p, .int (k : Nat)]) ∧ Rw H p i
theorem Parts.get {H : Hp} {vs : List V} {r : Row Str} (h : Parts H vs r) : ∀ {n : Nat} {v : V}, vs[n]? = some v → ∃ it, r.items[n]? = some it ∧ PartAt H v it := by
  induction h with
  | nil => intro n v e; simp at e
  | @nm x vs r t ih =>
    intro n v e
    cases n with
    | zero =>
      simp at e
      exact ⟨.inl x, rfl, e.symm⟩
    | succ n => exact ih (by simpa using e)
  | @pow q p k ws vs i r hq hp hi t ih1 ih2 =>
    intro n v e
    cases n with
    | zero =>
      simp at e
      exact ⟨.inr (i, k), rfl, q, p, e.symm, hq, ws, hp, hi⟩
    | succ n => exact ih2 (by simpa using e)
theorem Rw.nil {H : Hp} {p : Addr} (h : H p = some (.tup [])) : Rw H p .nil := ⟨[], h, .nil⟩
theorem Rw.nm1 {H : Hp} {p : Addr} {x : Str} (h : H p = some (.tup [.str x])) : Rw H p (.nm x .nil) := ⟨_, h, .nm .nil⟩
theorem Rw.pow1 {H : Hp} {p q a : Addr} {k : Nat} {i : Row Str} (h : H p = some (.tup [.ref q])) (hq : H q = some (.tup [.ref a, .int (k : Nat)])) (ha : Rw H a i) : Rw H p (.pow i k .nil) := let ⟨ws, h1, h2⟩ := ha; ⟨_, h, .pow hq h1 h2 .nil⟩
theorem Rw.cat {H : Hp} {p q a : Addr} {xs ys : List V} {r s : Row Str} (hp : H p = some (.tup xs)) (hq : H q = some (.tup ys)) (ha : H a = some (.tup (xs ++ ys))) (h1 : Parts H xs r) (h2 : Parts H ys s) : Rw H a (r.app s) := ⟨_, ha, h1.app h2⟩
/-! ### machines -/
abbrev Ds := List (Str × List Nat)
/-- the deeds' pairs -/
def DeedsAt (H : Hp) (vs : List V) (ds : Ds) : Prop := vs.length = ds.length ∧ ∀ (i : Nat) (x : Str) (f : List Nat), ds[i]? = some (x, f) → ∃ p q, vs[i]? = some (.ref p) ∧ H p = some (.tup [.str x, .ref q]) ∧ H q = some (.tup (encI f))
theorem DeedsAt.ei {H H' : Hp} {vs : List V} {ds : Ds} (h : DeedsAt H vs ds) (e : EI H H') : DeedsAt H' vs ds := ⟨h.1, fun i x f hi => let ⟨p, q, h1, h2, h3⟩ := h.2 i x f hi; ⟨p, q, h1, e.tup h2, e.tup h3⟩⟩
theorem DeedsAt.nil (H : Hp) : DeedsAt H [] [] := ⟨rfl, fun i x f e => by simp at e⟩
theorem DeedsAt.snoc {H : Hp} {vs : List V} {ds : Ds} {p q : Addr} {x : Str} {f : List Nat} (h : DeedsAt H vs ds) (h1 : H p = some (.tup [.str x, .ref q])) (h2 : H q = some (.tup (encI f))) : DeedsAt H (vs ++ [.ref p]) (ds ++ [(x, f)]) := by
  refine ⟨by rw [List.length_append, List.length_append, h.1]; rfl, fun i y g e => ?_⟩
  by_cases hi : i < ds.length
  · rw [List.getElem?_append_left hi] at e
    obtain ⟨a, b, k1, k2, k3⟩ := h.2 i y g e
    exact ⟨a, b, by rw [List.getElem?_append_left (by rw [h.1]; exact hi)]; exact k1, k2, k3⟩
  · rw [List.getElem?_append_right (by omega)] at e
    have : i - ds.length = 0 := by
      have := (List.getElem?_eq_some_iff.mp e).1
      rw [List.length_singleton] at this
      omega
    rw [this] at e
    cases e
    exact ⟨p, q, by rw [List.getElem?_append_right (by rw [h.1]; omega), h.1, this]; rfl, h1, h2⟩
theorem DeedsAt.get {H : Hp} {vs : List V} {ds : Ds} (h : DeedsAt H vs ds) {i : Nat} {v : V} (e : vs[i]? = some v) : ∃ x f p q, ds[i]? = some (x, f) ∧ v = .ref p ∧ H p = some (.tup [.str x, .ref q]) ∧ H q = some (.tup (encI f)) := by
  have hi : i < ds.length := by rw [← h.1]; exact (List.getElem?_eq_some_iff.mp e).1
  obtain ⟨p, q, h1, h2, h3⟩ := h.2 i _ _ (List.getElem?_eq_getElem hi)
  rw [e] at h1
  exact ⟨_, _, p, q, List.getElem?_eq_getElem hi, Option.some.inj h1, h2, h3⟩
/-- a machine's object -/
structure Mac (C : Addr) (H : Hp) (m : Addr) (n : Nat) (ds : Ds) : Prop where
  ex : ∃ (dx d nm : Addr) (vs : List V), H m = some (.ins C dx [("deeds", .ref d), ("names", .ref nm), ("size", .int (n : Nat))]) ∧ PlT H d vs ∧ DeedsAt H vs ds ∧ PlT H nm (ds.map fun q => V.str q.1)
/-- it is as it should be -/
structure Good (n : Nat) (ds : Ds) : Prop where
  two : 2 ≤ n
  few : n ≤ 49
  has : 0 < ds.length
  eight : ds.length ≤ 8
  perm : AllPm n ds
  name : ∀ p ∈ ds, isName p.1
  apart : (ds.map (·.1)).Nodup
theorem Mac.ex' {C : Addr} {H H' : Hp} {m : Addr} {n : Nat} {ds : Ds} (h : Mac C H m n ds) (e : Ex H H') : Mac C H' m n ds := by
  obtain ⟨dx, d, nm, vs, h1, h2, h3, h4⟩ := h.ex
  exact ⟨dx, d, nm, vs, e _ _ h1, e.plT h2, h3.ei e.ei, e.plT h4⟩
end Eo
namespace Eo
open PySem PyProof.Rows L2 L2.DX
section
variable {K : PySem.W.Frag} {σ : L2.St} {H : Hp} {Q : VK} {x y v : V} {nx bk ct : L2.St → Hp → Prop} {rt : VK} {i j l : Nat} {te to ti ta : TE}
theorem q_augS {f : Int → Int → Int} (h : to σ H fun o H1 => ti σ H1 fun i H2 => gGetL K o i H2 fun x H3 => te σ H3 fun y H4 => ipI f x y H4 fun z H5 => L2.rSetL o i z H5 fun H6 => nx σ H6) : tAugS to ti te (gGetL K) (ipI f) L2.rSetL ⟨nx, rt, bk, ct⟩ σ H := h
theorem r_getL {p : Addr} {xs : List V} (h : SqL K H p xs) (hj : xs[j]? = some v) (k : Q v H) : gGetL K (.ref p) (.int (j : Nat)) H Q := ⟨p, xs, j, v, rfl, rfl, h, hj, k⟩
theorem ixN_nat {n : Nat} (h : j < n) : ixN n (j : Nat) = some j := by
  unfold ixN
  simp
  omega
theorem r_setL {R : Hp → Prop} {p : Addr} {xs : List V} (h : H p = some (.lst xs)) (hj : j < xs.length) (k : ∀ H1, Mu p H H1 → H1 p = some (.lst (xs.set j v)) → R H1) : L2.rSetL (.ref p) (.int (j : Nat)) v H R :=
  ⟨p, xs, _, j, rfl, rfl, h, ixN_nat hj, k _ (Mu.of h rfl) upd_same⟩
theorem yp_get {xs ys : Nat → Option V} {n : Nat} {H1 H2 : Hp} (h : YPair xs ys n H1 x H2) : ∃ T a b, x = .ref T ∧ xs n = some a ∧ ys n = some b ∧ H2 T = some (.tup [a, b]) ∧ Ex H1 H2 := by
  obtain ⟨T, a, b, e, hn, e2, h1, h2⟩ := h
  subst e2
  exact ⟨T, a, b, e, h1, h2, upd_same, Ex.new hn⟩
theorem g_two {R : L2.St → Hp → Prop} {T : Addr} {a b : V} (h : SqT K H T [a, b]) (k : R ((σ.set i (some a)).set j (some b)) H) : gTup K 2 (gCons (gName i) (gCons (gName j) gNil)) (.ref T) σ H R :=
  ⟨T, [a, b], rfl, h, rfl, a, [b], rfl, b, [], rfl, rfl, k⟩
theorem e_idxF {t : TA} (k : to σ H fun x H1 => ∃ p xs, x = .ref p ∧ PlT H1 p xs ∧ t σ H1 fun vs H2 => ∃ (ys : List Str) (z : Str) (j : Nat), vs = [.str z] ∧ SqT K H2 p (ys.map V.str) ∧ ys[j]? = some z ∧ (∀ m, m < j → ys[m]? ≠ some z) ∧ Q (.int (j : Nat)) H2) : tIdxF K to t σ H Q := k
theorem e_idxI {t : TA} (k : to σ H fun x H1 => ∃ p xs, x = .ref p ∧ PlT H1 p xs ∧ t σ H1 fun vs H2 => ∃ (ys : List Int) (z : Int) (j : Nat), vs = [.int z] ∧ SqT K H2 p (ys.map V.int) ∧ ys[j]? = some z ∧ (∀ m, m < j → ys[m]? ≠ some z) ∧ Q (.int (j : Nat)) H2) : tIdxI K to t σ H Q := k
theorem e_dget {td ty : TE} (k : td σ H fun x H1 => ty σ H1 fun y H2 => ∃ a v, x = .ref a ∧ DGet H2 a y (some v) ∧ Q v H2) : tDGet td ty σ H Q := k
theorem e_din {td ty : TE} (k : ty σ H fun y H1 => td σ H1 fun x H2 => ∃ a o, x = .ref a ∧ DGet H2 a y o ∧ Q (.bl o.isSome) H2) : tDIn ty td σ H Q := k
theorem e_dnotin {td ty : TE} (k : ty σ H fun y H1 => td σ H1 fun x H2 => ∃ a o, x = .ref a ∧ DGet H2 a y o ∧ Q (.bl (!o.isSome)) H2) : tDNotIn ty td σ H Q := k
theorem e_dget2 {td ty tx : TE} (k : td σ H fun x H1 => ∃ a, x = .ref a ∧ IsD H1 a ∧ ty σ H1 fun y H2 => tx σ H2 fun z H3 => ∃ o, DGet H3 a y o ∧ Q (o.getD z) H3) : tDGet2 td ty tx σ H Q := k
theorem q_dput {td ty tv : TE} (k : tv σ H fun v H1 => td σ H1 fun x H2 => ty σ H2 fun y H3 => ∃ a H4, x = .ref a ∧ DPut H3 a y v H4 ∧ nx σ H4) : sDPut td ty tv ⟨nx, rt, bk, ct⟩ σ H := k
theorem dget_S {p : Addr} {kvs : List (Key × V)} {z : Str} {o : Option V} (h : H p = some (.dK kvs)) (hv : valV kvs (Sum.inr z) = o) : DGet H p (.str z) o := by rw [← hv]; exact DGet.k (k := Sum.inr z) h
theorem dget_I {p : Addr} {kvs : List (Key × V)} {z : Int} {o : Option V} (h : H p = some (.dK kvs)) (hv : valV kvs (Sum.inl z) = o) : DGet H p (.int z) o := by rw [← hv]; exact DGet.k (k := Sum.inl z) h
theorem rgV_idn (n : Nat) : rgV 0 (n : Int) = encI (idn n) := by
  unfold rgV encI idn
  simp
def RgT (a b : Int) (H : Hp) (Q : VK) : Prop := RgOk a b ∧ ∀ q, H q = none → Q (.ref q) (upd H q (.tup (rgV a b)))
def RgL (a b : Int) (H : Hp) (Q : VK) : Prop := RgOk a b ∧ ∀ q, H q = none → Q (.ref q) (upd H q (.lst (rgV a b)))
theorem e_tupRg {te : L2.St → Hp → (Int → Int → Hp → Prop) → Prop} (k : te σ H fun a b H1 => RgT a b H1 Q) : tTupRg te σ H Q := k
theorem e_lstRg {te : L2.St → Hp → (Int → Int → Hp → Prop) → Prop} (k : te σ H fun a b H1 => RgL a b H1 Q) : tLstRg te σ H Q := k
theorem e_rg1 {R : Int → Int → Hp → Prop} (k : ta σ H fun x H1 => ∃ n, x = .int n ∧ R 0 n H1) : tRg1 ta σ H R := k
theorem e_rg2 {tb : TE} {R : Int → Int → Hp → Prop} (k : ta σ H fun x H1 => tb σ H1 fun y H2 => ∃ i j, x = .int i ∧ y = .int j ∧ R i j H2) : tRg2 ta tb σ H R := k
theorem r_rgT {n : Nat} (hn : n ≤ 1000) (k : ∀ q H2, H q = none → Ex H H2 → H2 q = some (.tup (encI (idn n))) → Q (.ref q) H2) : RgT 0 (n : Int) H Q := ⟨by unfold RgOk; omega, fun q hq => k q _ hq (Ex.new hq) (by rw [upd_same, rgV_idn])⟩
theorem r_rgL {n : Nat} (hn : n ≤ 1000) (k : ∀ q H2, H q = none → Ex H H2 → H2 q = some (.lst (encI (idn n))) → Q (.ref q) H2) : RgL 0 (n : Int) H Q := ⟨by unfold RgOk; omega, fun q hq => k q _ hq (Ex.new hq) (by rw [upd_same, rgV_idn])⟩
/-- list * number -/
theorem r_rep1 {l : Addr} {c : Nat} (h : H l = some (.lst [v])) (hc : c ≤ 100000) (k : ∀ p H1, H p = none → Ex H H1 → H1 p = some (.lst (List.replicate c v)) → Q (.ref p) H1) : rRep (.ref l) (.int (c : Nat)) H Q := by
  refine ⟨l, c, [v], rfl, rfl, h, by omega, by omega, ?_, fun p hp => k p _ hp (Ex.new hp) ?_⟩
  · refine small ?_
    simp
    omega
  · rw [upd_same]
    simp
theorem q_asgS {tv : TE} (k : tv σ H fun v H1 => to σ H1 fun o H2 => ti σ H2 fun i H3 => L2.rSetL o i v H3 fun H4 => nx σ H4) : tAsg tv (gSub to ti L2.rSetL) ⟨nx, rt, bk, ct⟩ σ H := k
theorem y_rng {i : Nat} {H H' : Hp} (y : YFn (fun i => .int (0 + i)) i H x H') : H' = H ∧ x = V.int (i : Nat) := ⟨y.1, by rw [y.2]; simp⟩
theorem r_set0 {w : World} (k : ∀ p H1, H p = none → Ex H H1 → H1 p = some (SetO w p (fun _ => false) 0) → Q (.ref p) H1) : rSet0 w [] H Q := ⟨rfl, fun p hp => k p _ hp (Ex.new hp) upd_same⟩
theorem r_sin {w : World} {a : Addr} {i : Int} {S : Int → Bool} {n : Nat} (h : H a = some (SetO w a S n)) (k : Q (.bl (S i)) H) : rSIn w (.int i) (.ref a) H Q := ⟨i, a, S, n, rfl, rfl, h, k⟩
theorem r_snotin {w : World} {a : Addr} {i : Int} {S : Int → Bool} {n : Nat} (h : H a = some (SetO w a S n)) (k : Q (.bl (!S i)) H) : rSNotIn w (.int i) (.ref a) H Q := ⟨i, a, S, n, rfl, rfl, h, k⟩
theorem e_sadd {w : World} {t : TA} (k : to σ H fun x H1 => (∃ a S n, x = V.ref a ∧ H1 a = some (SetO w a S n)) ∧ t σ H1 fun xs H2 => rSAdd w x xs H2 Q) : tSAdd w to t σ H Q := k
theorem r_sadd {w : World} {a : Addr} {i : Int} {S : Int → Bool} {n : Nat} (h : H a = some (SetO w a S n)) (hn : n < 4000) (k : ∀ H1 m, Mu a H H1 → H1 a = some (SetO w a (fun j => S j || decide (j = i)) m) → m ≤ n + 1 → Q .non H1) : rSAdd w (.ref a) [.int i] H Q :=
  ⟨a, i, S, n, rfl, rfl, h, (show n + 1 < 4096 by omega), k _ _ (Mu.of h rfl) upd_same (by split <;> omega)⟩
theorem g_two_in {R : L2.St → Hp → Prop} {T p : Addr} {a b c : V} (h : SqT K H T [a, .ref p]) (h2 : SqT K H p [b, c]) (k : R (((σ.set i (some a)).set j (some b)).set l (some c)) H) : gTup K 2 (gCons (gName i) (gCons (gTup K 2 (gCons (gName j) (gCons (gName l) gNil))) gNil)) (.ref T) σ H R :=
  ⟨T, [a, .ref p], rfl, h, rfl, a, [.ref p], rfl, .ref p, [], rfl, p, [b, c], rfl, h2, rfl, b, [c], rfl, c, [], rfl, rfl, rfl, k⟩
theorem e_lenSet (k : ta σ H fun x H1 => ∃ (l : Addr) (ns : List Int), x = V.ref l ∧ SqT K H1 l (ns.map V.int) ∧ ns.Nodup ∧ ns.length ≤ 4000 ∧ Q (.int (ns.length : Nat)) H1) : tLenSetT K ta σ H Q := k
def Dc (J : It) (g : TG) (tt : TT) (tk tv : TE) (vs : List Nat) (σ : L2.St) (H1 : Hp) (Q : VK) : Prop := ∀ D, H1 D = none → ∃ W : Nat → Nat → Hp → Prop, (∃ m, W 0 m (upd H1 D (.dK []))) ∧ ∀ i m H, W i m H →
  (J.stop i H ∧ Q (.ref D) H) ∨ (J.go i H ∧ ∃ Nx : Hp → Prop, (∀ H', Nx H' → ∃ m', m' < m ∧ W (i + 1) m' H') ∧ ∀ x H', J.yld i H x H' → g x (wipe σ vs) H' fun σ2 H2 => wipe σ2 vs = wipe σ vs ∧ tt σ2 H2 fun b H3 =>
    if b = true then tk σ2 H3 fun y H4 => tv σ2 H4 fun z H5 => ∃ kvs k, y = kV k ∧ H5 D = some (.dK kvs) ∧ kvs.length < sizeLine ∧ Nx (upd H5 D (.dK (putK kvs k z))) else Nx H3)
theorem l_dcT {g : TG} {tt : TT} {tk tv : TE} {vs : List Nat} (h : ta σ H fun x H1 => ∃ a, x = .ref a ∧ (∃ xs, SqT K H1 a xs) ∧ Dc (Itt K a) g tt tk tv vs σ H1 Q) : tDc (iTup K ta) g tt tk tv vs σ H Q := h
/-- a dict by a comprehension over a tuple -/
theorem dc_I {g : TG} {tk tv : TE} {vs : List Nat} {a : Addr} {xs : List V} (I : Nat → List (Key × V) → Hp → Prop) (hx : SqT K H a xs) (hn : xs.length ≤ 50000) (h0 : ∀ H1, Ex H H1 → I 0 [] H1) (mono : ∀ i acc H1 H2, EI H1 H2 → I i acc H1 → I i acc H2)
    (step : ∀ i kvs x H2, xs[i]? = some x → Ex H H2 → I i kvs H2 → ∀ R : V → V → Hp → Prop, (∀ k z H3, Ex H2 H3 → I (i + 1) (putK kvs k z) H3 → R (kV k) z H3) → g x (wipe σ vs) H2 fun σ2 H3 => wipe σ2 vs = wipe σ vs ∧ tk σ2 H3 fun y H4 => tv σ2 H4 (R y))
    (k : ∀ D kvs H1, H D = none → Ex H H1 → H1 D = some (.dK kvs) → I xs.length kvs H1 → Q (.ref D) H1) : Dc (Itt K a) g tYes tk tv vs σ H Q := by
  intro D hD
  refine dc_tup (K := K) (xs := xs) (Qd := fun H' => Q (.ref D) H') (fun i H' => Ex H H' ∧ ∃ kvs, H' D = some (.dK kvs) ∧ kvs.length ≤ i ∧ I i kvs H') ⟨Ex.new hD, [], upd_same, Nat.zero_le _, h0 _ (Ex.new hD)⟩ (fun i H' _ p => p.1.sqT hx) (fun i x H2 hxi p => ?_)
    fun H' p => let ⟨e, kvs, h1, _, h3⟩ := p; k D kvs H' hD e h1 h3
  obtain ⟨e, kvs, h1, h2, h3⟩ := p
  have hi := (List.getElem?_eq_some_iff.mp hxi).1
  exact step i kvs x H2 hxi e h3 (fun y z H5 => ∃ kvs k, y = kV k ∧ H5 D = some (.dK kvs) ∧ kvs.length < sizeLine ∧ (Ex H (upd H5 D (.dK (putK kvs k z))) ∧ ∃ kvs', (upd H5 D (.dK (putK kvs k z))) D = some (.dK kvs') ∧ kvs'.length ≤ i + 1 ∧ I (i + 1) kvs' (upd H5 D (.dK (putK kvs k z))))) fun k z H3 e3 q => by
    have at3 := e3 _ _ h1
    have m : Mu D H3 (upd H3 D (.dK (putK kvs k z))) := Mu.of at3 rfl
    have := length_putK kvs k z
    exact ⟨kvs, k, rfl, at3, smallL (by omega), (e.trans e3).mu m hD, _, upd_same, by omega, mono _ _ _ _ m.ei q⟩
theorem f_revA {g : TG} {t : TS} (h : ta σ H fun x H1 => ∃ (a : Addr) (xs : List V), x = .ref a ∧ ((SqL K H1 a xs ∧ Fr (Itv K a xs.length) g t ⟨nx, rt, bk, ct⟩ σ H1) ∨ (SqT K H1 a xs ∧ Fr (RT.ItvT K a xs.length) g t ⟨nx, rt, bk, ct⟩ σ H1))) : tFor (RT.iRevA K ta) g t ⟨nx, rt, bk, ct⟩ σ H := h
theorem e_dnewT (k : ∀ p H1, H p = none → Ex H H1 → H1 p = some (.dT []) → Q (.ref p) H1) : tDNewT σ H Q := fun p hp => k p _ hp (Ex.new hp) upd_same
theorem e_dnewK (k : ∀ p H1, H p = none → Ex H H1 → H1 p = some (.dK []) → Q (.ref p) H1) : tDNewK σ H Q := fun p hp => k p _ hp (Ex.new hp) upd_same
theorem e_part {R : Option Int → Hp → Prop} (k : te σ H fun x H1 => ∃ i, x = .int i ∧ R (some i) H1) : tPart te σ H R := k
theorem e_nopart {R : Option Int → Hp → Prop} (k : R none H) : tNoPart σ H R := k
theorem cut_drop (xs : List V) (i : Nat) : cutV xs (some (i : Int)) none = xs.drop i := by
  unfold cutV
  rw [HT.sIx_nat, HT.sIx_none]
  by_cases h : i ≤ xs.length
  · rw [Nat.min_eq_left h, List.take_of_length_le (by rw [List.length_drop]; omega)]
  · rw [Nat.min_eq_right (by omega), List.drop_eq_nil_of_le (Nat.le_refl _), List.drop_eq_nil_of_le (by omega), List.take_nil]
theorem cut_take (xs : List V) (i : Nat) : cutV xs none (some (i : Int)) = xs.take i := by
  unfold cutV
  rw [HT.sIx_none, HT.sIx_nat, List.drop_zero, Nat.sub_zero]
  by_cases h : i ≤ xs.length
  · rw [Nat.min_eq_left h]
  · rw [Nat.min_eq_right (by omega), List.take_length, List.take_of_length_le (by omega)]
theorem r_slDrop {a : Addr} {xs : List V} {i : Nat} (h : SqT K H a xs) (hi : 0 < i) (hl : 0 < xs.length) (k : ∀ p H1, Ex H H1 → H1 p = some (.tup (xs.drop i)) → Q (.ref p) H1) : rSlA K (.ref a) (some (i : Int)) none H Q := by
  refine ⟨a, xs, rfl, h, fun e => ?_, fun _ p hp => ?_⟩
  · rw [HT.sIx_nat] at e
    have := e.1
    omega
  · refine k p _ (Ex.new hp) ?_
    rw [upd_same, cut_drop]
theorem r_slTake {a : Addr} {xs : List V} {i : Nat} (h : SqT K H a xs) (hl : i < xs.length) (k : ∀ p H1, Ex H H1 → H1 p = some (.tup (xs.take i)) → Q (.ref p) H1) : rSlA K (.ref a) none (some (i : Int)) H Q := by
  refine ⟨a, xs, rfl, h, fun e => ?_, fun _ p hp => ?_⟩
  · rw [HT.sIx_nat] at e
    have := e.2
    omega
  · refine k p _ (Ex.new hp) ?_
    rw [upd_same, cut_take]
theorem r_slL {a : Addr} {xs : List V} {i : Nat} (h : SqL K H a xs) (k : ∀ p H1, H p = none → Ex H H1 → H1 p = some (.lst (xs.take i)) → Q (.ref p) H1) : rSlL K (.ref a) none (some (i : Int)) H Q := ⟨a, xs, rfl, h, fun p hp => k p _ hp (Ex.new hp) (by rw [upd_same, cut_take])⟩
/-! ### numbers as data -/
theorem encI_ints (f : List Nat) : encI f = (f.map fun (n : Nat) => (n : Int)).map V.int := by unfold encI; rw [List.map_map]; rfl
theorem lay_ints : ∀ ns : List Int, PyData.canLayAll0 (ns.map PyData.int) = true ∧ PyData.depthAll (ns.map PyData.int) = 0
  | [] => ⟨rfl, by simp [PyData.depthAll]⟩
  | n :: ns => by
    have ih := lay_ints ns
    refine ⟨?_, ?_⟩
    · simp only [List.map_cons, PyData.canLayAll0, PyData.canLay0, ih.1, Bool.and_self]
    · simp only [List.map_cons, PyData.depthAll, PyData.depth, ih.2]
      rfl
theorem shaped_tupI (ns : List Int) : SeqAt.shaped (.tuple (ns.map PyData.int)) = true := by
  unfold SeqAt.shaped
  have := lay_ints ns
  simp only [PyData.canLay0, this.1, PyData.depth, this.2]
  rfl
theorem shaped_lstI (ns : List Int) : SeqAt.shaped (.list (ns.map PyData.int)) = true := by
  unfold SeqAt.shaped
  have := lay_ints ns
  simp only [PyData.canLay0, this.1, PyData.depth, this.2]
  rfl
theorem eqv_ints : ∀ ms ns : List Int, PyData.eqvAll (ms.map PyData.int) (ns.map PyData.int) = decide (ms = ns)
  | [], [] => by simp [PyData.eqvAll]
  | [], _ :: _ => by simp [PyData.eqvAll]
  | _ :: _, [] => by simp [PyData.eqvAll]
  | m :: ms, n :: ns => by
    simp only [List.map_cons, PyData.eqvAll, PyData.eqv, eqv_ints ms ns]
    by_cases h : m = n
    · subst h; simp
    · simp [h]
theorem eqv_nats (f g : List Nat) : decide ((f.map fun (n : Nat) => (n : Int)) = (g.map fun (n : Nat) => (n : Int))) = decide (f = g) := by
  have : ((f.map fun (n : Nat) => (n : Int)) = (g.map fun (n : Nat) => (n : Int))) ↔ f = g := ⟨fun h => List.map_inj_right (f := fun (n : Nat) => (n : Int)) (fun x y e => by omega) |>.mp h, fun h => by rw [h]⟩
  simp only [this]
theorem r_neT {a b : Addr} {f g : List Nat} (ha : SqT K H a (encI f)) (hb : SqT K H b (encI g)) (k : Q (.bl (!decide (f = g))) H) : rNeD K (.ref a) (.ref b) H Q := by
  rw [encI_ints] at ha hb
  refine ⟨_, _, .tup ha (dp_ints _), .tup hb (dp_ints _), shaped_tupI _, shaped_tupI _, ?_⟩
  simp only [PyData.eqv]
  rw [eqv_ints, eqv_nats]
  exact k
theorem r_neL {a b : Addr} {f g : List Nat} (ha : SqL K H a (encI f)) (hb : SqL K H b (encI g)) (k : Q (.bl (!decide (f = g))) H) : rNeD K (.ref a) (.ref b) H Q := by
  rw [encI_ints] at ha hb
  refine ⟨_, _, .lst ha (dp_ints _), .lst hb (dp_ints _), shaped_lstI _, shaped_lstI _, ?_⟩
  simp only [PyData.eqv]
  rw [eqv_ints, eqv_nats]
  exact k
theorem e_sl {r : V → Option Int → Option Int → Hp → VK → Prop} {tl th : TO} (k : te σ H fun x H1 => tl σ H1 fun l H2 => th σ H2 fun u H3 => r x l u H3 Q) : tSl r te tl th σ H Q := k
/-! ### a row as data -/
def rowD : Row Str → List PyData
  | .nil => []
  | .nm x r => .str x :: rowD r
  | .pow i k r => .tuple [.tuple (rowD i), .int (k : Nat)] :: rowD r
theorem Parts.dp {vs : List V} {r : Row Str} (h : Parts H vs r) : DpAll K H vs (rowD r) := by
  induction h with
  | nil => exact .nil
  | nm t ih => exact .cons (.str _) ih
  | pow hq hp hi t ih1 ih2 => exact .cons (.tup (stT hq) (.cons (.tup (stT hp) ih1) (.cons (.int _) .nil))) ih2
theorem isName.ok {z : Str} (h : isName z) : PyData.strOk z = true := by
  unfold PyData.strOk
  rw [Array.all_eq_true']
  intro c hc
  have := h.2.2 c (by simpa using hc)
  simp
  omega
theorem lay_row {N : List Str} (hN : ∀ z ∈ N, isName z) : ∀ {r : Row Str}, r.Names N → PyData.canLayAll0 (rowD r) = true ∧ PyData.depthAll (rowD r) ≤ 2 * r.depth
  | .nil, _ => ⟨rfl, by simp [rowD, PyData.depthAll]⟩
  | .nm x r, h => by
    have ih := lay_row hN h.2
    refine ⟨?_, ?_⟩
    · simp only [rowD, PyData.canLayAll0, PyData.canLay0, (hN x h.1).ok, ih.1, Bool.and_self]
    · simp only [rowD, PyData.depthAll, PyData.depth]
      show max 0 _ ≤ 2 * r.depth
      omega
  | .pow i k r, h => by
    have ih1 := lay_row hN h.1
    have ih2 := lay_row hN h.2
    refine ⟨?_, ?_⟩
    · simp only [rowD, PyData.canLayAll0, PyData.canLay0, ih1.1, ih2.1, Bool.and_self]
    · simp only [rowD, PyData.depthAll, PyData.depth]
      show _ ≤ 2 * max (i.depth + 1) r.depth
      omega
theorem dp_strs : ∀ N : List Str, DpAll K H (N.map V.str) (N.map PyData.str)
  | [] => .nil
  | z :: N => .cons (.str z) (dp_strs N)
theorem lay_strs {N : List Str} (hN : ∀ z ∈ N, isName z) : PyData.canLayAll0 (N.map PyData.str) = true ∧ PyData.depthAll (N.map PyData.str) = 0 := by
  induction N with
  | nil => exact ⟨rfl, by simp [PyData.depthAll]⟩
  | cons z N ih =>
    have ih := ih fun y hy => hN y (List.mem_cons_of_mem _ hy)
    refine ⟨?_, ?_⟩
    · simp only [List.map_cons, PyData.canLayAll0, PyData.canLay0, (hN z (List.mem_cons_self ..)).ok, ih.1, Bool.and_self]
    · simp only [List.map_cons, PyData.depthAll, PyData.depth, ih.2]
      rfl
theorem shaped_strs {N : List Str} (hN : ∀ z ∈ N, isName z) : SeqAt.shaped (.tuple (N.map PyData.str)) = true := by
  unfold SeqAt.shaped
  have := lay_strs hN
  simp only [PyData.canLay0, this.1, PyData.depth, this.2]
  rfl
theorem shaped_str {z : Str} (h : isName z) : SeqAt.shaped (.str z) = true := by
  unfold SeqAt.shaped
  simp only [PyData.canLay0, h.ok, PyData.depth]
  rfl
/-- a name that is there; a power -/
theorem r_nI_s {N : List Str} {b : Addr} {z : Str} (hN : ∀ z ∈ N, isName z) (h : SqT K H b (N.map V.str)) (hz : z ∈ N) (k : Q (.bl false) H) : rInTD K true (.str z) (.ref b) H Q := by
  refine ⟨.str z, N.map PyData.str, .str z, .tup h (dp_strs N), shaped_str (hN z hz), shaped_strs hN, ?_⟩
  have : (N.map PyData.str).any (fun y => PyData.eqv y (.str z)) = true := by
    rw [List.any_map, List.any_eq_true]
    exact ⟨z, hz, by simp [PyData.eqv]⟩
  rw [this]
  exact k
theorem r_nI_t {N : List Str} {b q p : Addr} {i : Row Str} {c : Nat} (hN : ∀ z ∈ N, isName z) (h : SqT K H b (N.map V.str)) (hq : H q = some (.tup [.ref p, .int (c : Nat)])) (hp : Rw H p i) (hi : i.Names N) (hd : i.depth ≤ 10) (k : Q (.bl true) H) : rInTD K true (.ref q) (.ref b) H Q := by
  obtain ⟨ws, h1, h2⟩ := hp
  refine ⟨.tuple [.tuple (rowD i), .int (c : Nat)], N.map PyData.str, .tup (stT hq) (.cons (.tup (stT h1) h2.dp) (.cons (.int _) .nil)), .tup h (dp_strs N), ?_, shaped_strs hN, ?_⟩
  · have := lay_row hN hi
    unfold SeqAt.shaped
    simp only [PyData.canLay0, PyData.canLayAll0, this.1, PyData.depth, PyData.depthAll, Bool.and_self, Bool.true_and]
    exact decide_eq_true (by omega)
  · have : (N.map PyData.str).any (fun y => PyData.eqv y (.tuple [.tuple (rowD i), .int (c : Nat)])) = false := by
      rw [List.any_map]
      simp [PyData.eqv]
    rw [this]
    exact k
end
end Eo
namespace Eo
open PySem PyProof.Rows L2 L2.DX
/-! words of the walk: wp goes on where nothing is open; hl looks an object up; ex: what stood stands -/
local macro_rules | `(tactic| walk_at "hl") => `(tactic| first | assumption | exact PlT.sq (by assumption) | (refine stT ?_; walk_at "hl") | (refine stL ?_; walk_at "hl") | (refine Ex.at (by assumption) ?_; walk_at "hl") | (refine Mu.tup (by assumption) ?_; walk_at "hl") | (refine Ex.sqT (by assumption) ?_; walk_at "hl") | (refine Ex.sqL (by assumption) ?_; walk_at "hl") | (refine Ex.plT (by assumption) ?_; walk_at "hl") | (refine Mu.plT (by assumption) ?_; walk_at "hl"))
local macro_rules | `(tactic| walk_at "ex") => `(tactic| first | assumption | exact Ex.refl _ | (refine Ex.trans ?_ (by assumption); walk_at "ex") | (refine Ex.mu ?_ (by assumption) (by first | assumption | walk_at "fr"); walk_at "ex"))
local macro_rules | `(tactic| walk_at "fr") => `(tactic| first | assumption | (refine Ex.free (by assumption) ?_; walk_at "fr"))
local macro_rules | `(tactic| walk_at "rf") => `(tactic| with_unfolding_all rfl)
local macro_rules | `(tactic| walk_at "wp") => `(tactic| repeat (with_reducible first
  | refine q_seq ?_ | refine q_asg ?_ | refine q_ret ?_ | refine q_drop ?_ | refine q_if ?_ | refine q_next ?_ | refine q_par ?_ | refine q_par3 ?_ | refine q_retN ?_ | refine q_cont ?_ | refine q_brk ?_
  | refine e_var (by with_unfolding_all rfl) ?_ | refine e_c ?_ | refine e_op ?_ | refine e_cons ?_ | refine e_nil ?_ | refine e_test ?_ | refine e_B ?_ | refine e_yes ?_ | refine e_cb ?_ | refine e_call ?_ | refine e_then ?_ | refine e_tup ?_ | refine e_lst ?_
  | refine x_bl ?_ | refine i_T ?_ | refine i_F ?_ | refine x_two ?_ | refine x_three ?_
  | refine r_I0 ?_ | refine r_add ?_ | refine r_ip ?_ | refine g_nm ?_ | refine r_eqI ?_ | refine r_neI ?_ | refine r_eq (by with_unfolding_all rfl) ?_ | refine r_ne (by with_unfolding_all rfl) ?_
  | refine e_not ?_ | refine e_and ?_ | refine e_or ?_ | refine e_andV ?_ | refine e_orV ?_ | refine e_notV ?_ | refine e_ifx ?_ | refine e_idxF ?_ | refine e_idxI ?_ | refine e_sl ?_ | refine e_part ?_ | refine e_nopart ?_ | refine f_revA ?_ | refine e_lenSet ?_ | refine l_dcT ?_ | refine e_sadd ?_ | refine q_asgS ?_ | refine q_augS ?_ | refine e_tupRg ?_ | refine e_lstRg ?_ | refine e_rg1 ?_ | refine e_rg2 ?_ | refine e_dget ?_ | refine e_din ?_ | refine e_dnotin ?_ | refine e_dget2 ?_ | refine q_dput ?_ | refine e_un ?_ | refine e_chain ?_ | refine e_bm ?_ | refine e_bm0 ?_ | refine e_fld ?_ | refine q_asgT ?_
  | refine l_any ?_ | refine l_tup ?_ | refine l_list ?_ | refine l_rng1 ?_ | refine l_rng2 ?_ | refine l_str ?_ | refine l_enumL ?_ | refine l_enumT ?_ | refine l_zip ?_ | refine l_zipM ?_
  | refine f_tup ?_ | refine f_list ?_ | refine f_rng1 ?_ | refine f_enumL ?_ | refine f_enumT ?_))
local macro_rules | `(tactic| walk_at "sz") => `(tactic| first | decide | (refine small ?_; simp; done) | (refine small ?_; simp; omega) | (refine smallL ?_; simp; done) | (refine smallL ?_; simp; omega) | (simp; done) | (simp; omega))
section
variable {P : Program} {w : World} {K : PySem.W.Frag} {mg : Str → Option Value} {base : Heap} {C : Addr} {A : Nat → Addr} {FD : Nat → FuncData}
def sp_effect_then : Sp := fun vs H Q _ => ∃ (a b : Addr) (f g : List Nat), vs = [.ref a, .ref b] ∧ H a = some (.tup (encI f)) ∧ H b = some (.tup (encI g)) ∧ (∀ x ∈ f, x < g.length) ∧ f.length ≤ 100 ∧
  ∀ p H', Ex H H' → H' p = some (.tup (encI (cmp f g))) → Q (.ref p) H'
theorem ok_effect_then (T : Tx K mg C A FD) : (FnOk P w K mg base CX0 1 (A 14) (FD 14) ["one", "other"] sp_effect_then) := by
  refine T.d_effect_then.F.ok sc_effect_then (fun vs H Q E h => by obtain ⟨a, b, f, g, rfl, ha, hb, hlt, hl, k⟩ := h; rfl) (fun cdv A0 outer s H vs Q E hr h => ?_)
  obtain ⟨a, b, f, g, rfl, ha, hb, hlt, hl, k⟩ := h
  have hu := hu_of hr
  have hu64 := hr.units
  have hu2 : _ + 65 < cLine := (fun {A : Around} {k} (hr : Room k A) => (by have := hr.un; omega : A.units + 65 < cLine)) hr
  refine ⟨_, (pss_one (ps_ret (kpe_tupleOf K (by rfl) T.z_tuple (pe_lc rfl sc_effect_then.nd (kpi_tup K (pv 0)) (blkOk_by (own := [("state", 2)]) (N := N_effect_then) (sc := defScope s_effect_then) (by decide +kernel)) (fun _ _ _ _ _ => (pg_name (i := 2) sc_effect_then.nd rfl (by first | exact .inl rfl | exact .inr rfl))) (fun _ _ _ _ _ => pts_nil) (fun _ _ _ _ _ => (pe_ix (kix_tup K) (pv 1) (pv 2) (fun _ _ => rfl))))))), ?_⟩
  clear hu hu64 hu2
  walk_at "wp"
  refine ⟨a, rfl, ⟨_, stT ha⟩, lc_V (encI (cmp f g)) (wk_tup (stT ha)) (by rw [encI_len]; omega) (by rw [encI_len, encI_len, cmp_len]) (fun i x y H1 H2 hy e hx R hR => ?_) fun D H1 hD e hDl => ?_⟩
  · obtain ⟨rfl, hx⟩ := hx
    obtain ⟨hi, rfl⟩ := encI_at hx
    obtain ⟨_, rfl⟩ := encI_at hy
    refine ⟨rfl, ?_⟩
    walk_at "wp"
    refine r_ixT (by walk_at "hl") (atI_ok (encI_get (hlt _ (ap_mem hi)))) ?_
    rw [ap_cmp hi] at hR
    exact hR _ (Ex.refl _)
  · refine r_tupL (by walk_at "hl") fun p H2 hp e2 h2 => k p H2 (by walk_at "ex") h2
def sp_power_by (f0 : Addr) : Sp := fun vs H Q _ => ∃ (a b : Addr) (n c : Nat) (f : List Nat), vs = [.ref a, .int c, .ref b, .ref f0] ∧ H a = some (.tup (encI f)) ∧ H b = some (.tup (encI (idn n))) ∧ Pm n f ∧ n ≤ 100 ∧
  ∀ p H', Ex H H' → H' p = some (.tup (encI (pw n f c))) → Q (.ref p) H'
theorem ok_power_by (T : Tx K mg C A FD) : (FnOk P w K mg base CX0 2 (A 15) (FD 15) ["thing", "times", "nothing", "then"] (sp_power_by (A 14))) := by
  refine T.d_power_by.F.ok sc_power_by (fun vs H Q E h => by obtain ⟨a, b, n, c, f, rfl, ha, hb, hf, hn, k⟩ := h; rfl) (fun cdv A0 outer s H vs Q E hr h => ?_)
  obtain ⟨a, b, n, c, f, rfl, ha, hb, hf, hn, k⟩ := h
  have hu := hu_of hr
  have hu64 := hr.units
  have hu2 : _ + 65 < cLine := (fun {A : Around} {k} (hr : Room k A) => (by have := hr.un; omega : A.units + 65 < cLine)) hr
  refine ⟨_, (pss_cons (ps_set (i := 4) sc_power_by.nd rfl (.inl rfl) (pv 2))
    (pss_cons (ps_while PassesOwn.never (pt_cmpR op_gt (pv 1) pe_int (nomark _)) (pss_cons (ps_if (pt_cmpR op_eq (pe_op op_mod (pv 1) pe_int) pe_int (nomark _)) (pss_one (ps_set (i := 4) sc_power_by.nd rfl (.inl rfl) (pe_callL (i := 3) (ok_effect_then T) (hr.mono (by decide)) rfl (Or.inl rfl) T.d_effect_then.F.kp T.d_effect_then.b .nil pass0 (pa_cons (pv 4) (pa_cons (pv 0) pa_nil))))) pss_nil)
      (pss_cons (ps_set (i := 0) sc_power_by.nd rfl (.inl rfl) (pe_callL (i := 3) (ok_effect_then T) (hr.mono (by decide)) rfl (Or.inl rfl) T.d_effect_then.F.kp T.d_effect_then.b .nil pass0 (pa_cons (pv 0) (pa_cons (pv 0) pa_nil))))
      (pss_one (ps_aug (i := 1) sc_power_by.nd rfl (.inl rfl) pe_int ip_fdiv)))))
    (pss_one (ps_ret (pv 4))))), ?_⟩
  clear hu hu64 hu2
  walk_at "wp"
  refine w_W (fun m σ H1 => Ex H H1 ∧ ∃ (p q : Addr) (g h : List Nat), σ = [some (.ref q), some (.int m), some (.ref b), some (.ref (A 14)), some (.ref p)] ∧ H1 p = some (.tup (encI g)) ∧ H1 q = some (.tup (encI h)) ∧ Pm n g ∧ Pm n h ∧ cmp g (pw n h m) = pw n f c) c
    ⟨Ex.refl _, b, a, idn n, f, rfl, hb, ha, Pm.idn n, hf, id_cmp (hf.pw c).ef⟩ (fun m σ H1 h => ?_)
  obtain ⟨e, p, q, g, h, rfl, hp, hq, pg, ph, eq⟩ := h
  walk_at "wp"
  refine i_d (fun hm => w_N ?_) (fun hm => ?_)
  · walk_at "wp"
    refine r_mod (by omega) ?_
    walk_at "wp"
    refine i_d (fun h1 => ?_) (fun h1 => ?_)
    · walk_at "wp"
      refine ⟨rfl, ?_⟩
      walk_at "wp"
      refine ⟨p, q, g, h, rfl, hp, hq, fun x hx => by rw [ph.len]; exact pg.lt x hx, by rw [pg.len]; exact hn, fun p2 H2 e2 h2 => ?_⟩
      walk_at "wp"
      refine ⟨rfl, ?_⟩
      walk_at "wp"
      refine ⟨q, q, h, h, rfl, e2 _ _ hq, e2 _ _ hq, fun x hx => by rw [ph.len]; exact ph.lt x hx, by rw [ph.len]; exact hn, fun q2 H3 e3 h3 => ?_⟩
      walk_at "wp"
      refine ⟨_, rfl, ?_⟩
      walk_at "wp"
      refine ⟨_, _, rfl, rfl, by decide, by decide, m / 2, by omega, by walk_at "ex", p2, q2, _, _, rfl, e3 _ _ h2, h3, pg.cmp ph, ph.cmp ph, ?_⟩
      rw [← eq, cmp_assoc pg.ef ph.ef]
      have e1 : m = 1 + 2 * (m / 2) := by omega
      conv => rhs; rw [e1]
      rw [pw_add ph.ef, pw_one ph.ef, pw_mul ph.ef]
      have : pw n h 2 = cmp h h := by rw [show 2 = 1 + 1 from rfl, pw_add ph.ef, pw_one ph.ef]
      rw [this]
    · walk_at "wp"
      refine ⟨rfl, ?_⟩
      walk_at "wp"
      refine ⟨q, q, h, h, rfl, hq, hq, fun x hx => by rw [ph.len]; exact ph.lt x hx, by rw [ph.len]; exact hn, fun q2 H3 e3 h3 => ?_⟩
      walk_at "wp"
      refine ⟨_, rfl, ?_⟩
      walk_at "wp"
      refine ⟨_, _, rfl, rfl, by decide, by decide, m / 2, by omega, by walk_at "ex", p, q2, _, _, rfl, e3 _ _ hp, h3, pg, ph.cmp ph, ?_⟩
      rw [← eq]
      have e1 : m = 2 * (m / 2) := by omega
      conv => rhs; rw [e1]
      rw [pw_mul ph.ef]
      have : pw n h 2 = cmp h h := by rw [show 2 = 1 + 1 from rfl, pw_add ph.ef, pw_one ph.ef]
      rw [this]
  · walk_at "wp"
    have : m = 0 := by omega
    subst this
    have e0 : cmp g (pw n h 0) = g := cmp_id pg.ef
    rw [← eq, e0] at k
    exact k p H1 e hp

def sp_first_stranger (d : Nat) : Sp := fun vs H Q _ => ∃ (a b : Addr) (r : Row Str) (N : List Str), vs = [.ref a, .ref b] ∧ Rw H a r ∧ PlT H b (N.map V.str) ∧ r.Names N ∧ (∀ z ∈ N, isName z) ∧ r.depth < d ∧ d ≤ 10 ∧ ∀ H', Ex H H' → Q .non H'
theorem ok_first_stranger (T : Tx K mg C A FD) : ∀ d : Nat, (FnOk P w K mg base CX0 d (A 8) (FD 8) ["row", "names"] (sp_first_stranger d)) := by
  intro d
  induction d with
  | zero => exact (no_ok (A 8) (FD 8) ["row", "names"]).imp fun vs H Q E h => by obtain ⟨_, _, _, _, _, _, _, _, _, h, _⟩ := h; omega
  | succ d ih =>
    refine T.d_first_stranger.F.ok sc_first_stranger (fun vs H Q E h => by obtain ⟨a, b, r, N, rfl, ha, hb, hN, hz, hd, hd2, k⟩ := h; rfl) (fun cdv A0 outer s H vs Q E hr h => ?_)
    obtain ⟨a, b, r, N, rfl, ha, hb, hN, hz, hd, hd2, k⟩ := h
    have hu := hu_of hr
    have hu64 := hr.units
    have hu2 : _ + 65 < cLine := (fun {A : Around} {k} (hr : Room k A) => (by have := hr.un; omega : A.units + 65 < cLine)) hr
    refine ⟨_, (pss_cons (ps_for PassesOwn.never rfl (kpi_tup K (pv 0)) (pg_name (i := 2) sc_first_stranger.nd rfl (by first | exact .inl rfl | exact .inr rfl)) (pss_cons (ps_set (i := 3) sc_first_stranger.nd rfl (.inl rfl) (pe_ifExp (pt_cmpR (kop_notInTD K hu2) (pv 2) (pv 1) rfl) (pv 2) pe_non))
      (pss_cons (ps_if (pt_val (pe_callB (kcall_isi K) (by rfl) T.z_isinstance (by decide +kernel) (pa_cons (pv 2) (pa_cons (pe_bltn (v := .ty "tuple") (by rfl) T.z_tuple (by decide +kernel) rfl) pa_nil)))) (pss_one (ps_set (i := 3) sc_first_stranger.nd rfl (.inl rfl) (pe_call ih (hr.mono (Nat.le_refl _)) (by rfl) T.d_first_stranger.g T.d_first_stranger.F.kp T.d_first_stranger.b .nil pass0 (pa_cons (pe_ix (kix_tup K) (pv 2) pe_int (fun _ _ => rfl)) (pa_cons (pv 1) pa_nil))))) pss_nil)
      (pss_one (ps_if (pt_cmpR op_notN (pv 3) pe_non (nomark _)) (pss_one (ps_ret (pv 3))) pss_nil)))))
    (pss_one (ps_ret pe_non))), ?_⟩
    clear hu hu64 hu2
    walk_at "wp"
    obtain ⟨ws, h1, h2⟩ := ha
    refine ⟨a, rfl, ⟨_, stT h1⟩, fr_W walk_tup (fun i σ H1 => Ex H H1 ∧ ∃ x y, σ = [some (.ref a), some (.ref b), x, y]) ⟨Ex.refl _, _, _, rfl⟩ (fun i σ H1 hi h => h.1.sqT (stT h1)) (fun i x σ H1 H2 hi h y => ?_) (fun σ H1 h => ?_)⟩
    · obtain ⟨e, x0, y0, rfl⟩ := h
      obtain ⟨rfl, hx⟩ := y
      obtain ⟨it, hit, hp⟩ := (h2.ei e.ei).get hx
      have hm := List.mem_of_getElem? hit
      have hn := Row.names_item hN hm
      walk_at "wp"
      cases it with
      | inl z =>
        obtain rfl := hp
        refine r_nI_s hz (e.plT hb).sq hn.1 ?_
        walk_at "wp"
        refine r_isi (.base (.str _)) (r := false) (by decide +kernel) ?_
        walk_at "wp"
        refine ⟨rfl, ?_⟩
        walk_at "wp"
        exact ⟨e, _, _, rfl⟩
      | inr p =>
        obtain ⟨j, c⟩ := p
        have hdj := Row.depth_item hm
        obtain ⟨q, p, rfl, hq, hr1⟩ := hp
        refine r_nI_t hz (e.plT hb).sq hq hr1 hn.1 (by omega) ?_
        walk_at "wp"
        refine r_isi (ty_tup hq) (r := true) (by decide +kernel) ?_
        walk_at "wp"
        refine r_ixT (n := 0) (stT hq) rfl ?_
        walk_at "wp"
        refine ⟨p, b, j, N, rfl, hr1, e.plT hb, hn.1, hz, by omega, by omega, fun H3 e3 => ?_⟩
        walk_at "wp"
        refine ⟨rfl, ?_⟩
        walk_at "wp"
        exact ⟨e.trans e3, _, _, rfl⟩
    · walk_at "wp"
      exact k H1 h.1
def sp_need_names : Sp := fun vs H Q _ => ∃ (a b : Addr) (r : Row Str) (N : List Str), vs = [.ref a, .ref b] ∧ Rw H a r ∧ PlT H b (N.map V.str) ∧ r.Names N ∧ (∀ z ∈ N, isName z) ∧ r.depth < 4 ∧ ∀ H', Ex H H' → Q .non H'
theorem ok_need_names (T : Tx K mg C A FD) : (FnOk P w K mg base CX0 6 (A 9) (FD 9) ["row", "names"] sp_need_names) := by
  refine T.d_need_names.F.ok sc_need_names (fun vs H Q E h => by obtain ⟨a, b, r, N, rfl, ha, hb, hN, hz, hd, k⟩ := h; rfl) (fun cdv A0 outer s H vs Q E hr h => ?_)
  obtain ⟨a, b, r, N, rfl, ha, hb, hN, hz, hd, k⟩ := h
  have hu := hu_of hr
  have hu64 := hr.units
  have hu2 : _ + 65 < cLine := (fun {A : Around} {k} (hr : Room k A) => (by have := hr.un; omega : A.units + 65 < cLine)) hr
  refine ⟨_, (pss_cons (ps_set (i := 2) sc_need_names.nd rfl (.inl rfl) (pe_call (ok_first_stranger T 4) (hr.mono (by decide)) (by rfl) T.d_first_stranger.g T.d_first_stranger.F.kp T.d_first_stranger.b .nil pass0 (pa_cons (pv 0) (pa_cons (pv 1) pa_nil))))
    (pss_one (ps_if (pt_cmpR op_notN (pv 2) pe_non (nomark _)) (pss_one ps_never) pss_nil))), ?_⟩
  clear hu hu64 hu2
  walk_at "wp"
  refine ⟨a, b, r, N, rfl, ha, hb, hN, hz, hd, by omega, fun H1 e => ?_⟩
  walk_at "wp"
  refine ⟨rfl, ?_⟩
  walk_at "wp"
  exact k H1 e

end
end Eo
namespace Eo
open PySem PyProof.Rows L2 L2.DX
/-! words of the walk: wp goes on where nothing is open; hl looks an object up; ex: what stood stands -/
local macro_rules | `(tactic| walk_at "hl") => `(tactic| first | assumption | exact PlT.sq (by assumption) | (refine stT ?_; walk_at "hl") | (refine stL ?_; walk_at "hl") | (refine Ex.at (by assumption) ?_; walk_at "hl") | (refine Mu.tup (by assumption) ?_; walk_at "hl") | (refine Ex.sqT (by assumption) ?_; walk_at "hl") | (refine Ex.sqL (by assumption) ?_; walk_at "hl") | (refine Ex.plT (by assumption) ?_; walk_at "hl") | (refine Mu.plT (by assumption) ?_; walk_at "hl"))
local macro_rules | `(tactic| walk_at "ex") => `(tactic| first | assumption | exact Ex.refl _ | (refine Ex.trans ?_ (by assumption); walk_at "ex") | (refine Ex.mu ?_ (by assumption) (by first | assumption | walk_at "fr"); walk_at "ex"))
local macro_rules | `(tactic| walk_at "fr") => `(tactic| first | assumption | (refine Ex.free (by assumption) ?_; walk_at "fr"))
local macro_rules | `(tactic| walk_at "rf") => `(tactic| with_unfolding_all rfl)
local macro_rules | `(tactic| walk_at "wp") => `(tactic| repeat (with_reducible first
  | refine q_seq ?_ | refine q_asg ?_ | refine q_ret ?_ | refine q_drop ?_ | refine q_if ?_ | refine q_next ?_ | refine q_par ?_ | refine q_par3 ?_ | refine q_retN ?_ | refine q_cont ?_ | refine q_brk ?_
  | refine e_var (by with_unfolding_all rfl) ?_ | refine e_c ?_ | refine e_op ?_ | refine e_cons ?_ | refine e_nil ?_ | refine e_test ?_ | refine e_B ?_ | refine e_yes ?_ | refine e_cb ?_ | refine e_call ?_ | refine e_then ?_ | refine e_tup ?_ | refine e_lst ?_
  | refine x_bl ?_ | refine i_T ?_ | refine i_F ?_ | refine x_two ?_ | refine x_three ?_
  | refine r_I0 ?_ | refine r_add ?_ | refine r_ip ?_ | refine g_nm ?_ | refine r_eqI ?_ | refine r_neI ?_ | refine r_eq (by with_unfolding_all rfl) ?_ | refine r_ne (by with_unfolding_all rfl) ?_
  | refine e_not ?_ | refine e_and ?_ | refine e_or ?_ | refine e_andV ?_ | refine e_orV ?_ | refine e_notV ?_ | refine e_ifx ?_ | refine e_idxF ?_ | refine e_idxI ?_ | refine e_sl ?_ | refine e_part ?_ | refine e_nopart ?_ | refine f_revA ?_ | refine e_lenSet ?_ | refine l_dcT ?_ | refine e_sadd ?_ | refine q_asgS ?_ | refine q_augS ?_ | refine e_tupRg ?_ | refine e_lstRg ?_ | refine e_rg1 ?_ | refine e_rg2 ?_ | refine e_dget ?_ | refine e_din ?_ | refine e_dnotin ?_ | refine e_dget2 ?_ | refine q_dput ?_ | refine e_un ?_ | refine e_chain ?_ | refine e_bm ?_ | refine e_bm0 ?_ | refine e_fld ?_ | refine q_asgT ?_
  | refine l_any ?_ | refine l_tup ?_ | refine l_list ?_ | refine l_rng1 ?_ | refine l_rng2 ?_ | refine l_str ?_ | refine l_enumL ?_ | refine l_enumT ?_ | refine l_zip ?_ | refine l_zipM ?_
  | refine f_tup ?_ | refine f_list ?_ | refine f_rng1 ?_ | refine f_enumL ?_ | refine f_enumT ?_))
local macro_rules | `(tactic| walk_at "sz") => `(tactic| first | decide | (refine small ?_; simp; done) | (refine small ?_; simp; omega) | (refine smallL ?_; simp; done) | (refine smallL ?_; simp; omega) | (simp; done) | (simp; omega))
section
variable {P : Program} {w : World} {K : PySem.W.Frag} {mg : Str → Option Value} {base : Heap} {C : Addr} {A : Nat → Addr} {FD : Nat → FuncData}
theorem ap_mapN {α : Type} {N : List α} {g : α → Nat} {n : Nat} (h : n < N.length) : ap (N.map g) n = g N[n] := by
  unfold ap
  rw [List.getD_eq_getElem?_getD, List.getElem?_map, List.getElem?_eq_getElem h]
  rfl
theorem nd_inj {α : Type} {l : List α} (nd : l.Nodup) {i j : Nat} (hi : i < l.length) (hj : j < l.length) (e : l[i] = l[j]) : i = j := by
  rcases Nat.lt_trichotomy i j with h | h | h
  · exact absurd e (List.pairwise_iff_getElem.mp nd i j hi hj h)
  · exact h
  · exact absurd e.symm (List.pairwise_iff_getElem.mp nd j i hj hi h)
theorem encI_set (f : List Nat) (j v : Nat) : (encI f).set j (.int (v : Nat)) = encI (f.set j v) := by unfold encI; rw [List.map_set]
def sp_name_counts (d : Nat) : Sp := fun vs H Q _ => ∃ (a b : Addr) (r : Row Str) (N : List Str), vs = [.ref a, .ref b] ∧ Rw H a r ∧ PlT H b (N.map V.str) ∧ r.Names N ∧ N.Nodup ∧ N.length ≤ 100 ∧ r.Below (2 ^ 64) ∧ r.depth < d ∧ ∀ p H', H p = none → Ex H H' → H' p = some (.lst (encI (N.map fun x => r.cnt x))) → Q (.ref p) H'
theorem ok_name_counts (T : Tx K mg C A FD) : ∀ d : Nat, (FnOk P w K mg base CX0 d (A 10) (FD 10) ["row", "names"] (sp_name_counts d)) := by
  intro d
  induction d with
  | zero => exact (no_ok (A 10) (FD 10) ["row", "names"]).imp fun vs H Q E h => by obtain ⟨_, _, _, _, _, _, _, _, _, _, _, h, _⟩ := h; omega
  | succ d ih =>
    refine T.d_name_counts.F.ok sc_name_counts (fun vs H Q E h => by obtain ⟨a, b, r, N, rfl, ha, hb, hN, nd, hl, hB, hd, k⟩ := h; rfl) (fun cdv A0 outer s H vs Q E hr h => ?_)
    obtain ⟨a, b, r, N, rfl, ha, hb, hN, nd, hl, hB, hd, k⟩ := h
    have hu := hu_of hr
    have hu64 := hr.units
    have hu2 : _ + 65 < cLine := (fun {A : Around} {k} (hr : Room k A) => (by have := hr.un; omega : A.units + 65 < cLine)) hr
    refine ⟨_, (pss_cons (ps_setLc (i := 2) rfl sc_name_counts.nd rfl rfl (sw_true rfl rfl rfl (by decide +kernel)) (kpi_tup K (pv 1)) (blkOk_by (own := [("_", 5)]) (N := N_name_counts) (sc := defScope s_name_counts) (by decide +kernel)) (fun _ _ _ _ _ => (pg_name (i := 5) sc_name_counts.nd rfl (by first | exact .inl rfl | exact .inr rfl))) (fun _ _ _ _ _ => pts_nil) (fun _ _ _ _ _ => pe_int))
    (pss_cons (ps_for PassesOwn.never rfl (kpi_tup K (pv 0)) (pg_name (i := 3) sc_name_counts.nd rfl (by first | exact .inl rfl | exact .inr rfl)) (pss_one (ps_if (pt_val (pe_callB (kcall_isi K) (by rfl) T.z_isinstance (by decide +kernel) (pa_cons (pv 3) (pa_cons (pe_bltn (v := .ty "tuple") (by rfl) T.z_tuple (by decide +kernel) rfl) pa_nil)))) (pss_cons (ps_set (i := 4) sc_name_counts.nd rfl (.inl rfl) (pe_call ih (hr.mono (Nat.le_refl _)) (by rfl) T.d_name_counts.g T.d_name_counts.F.kp T.d_name_counts.b .nil pass0 (pa_cons (pe_ix (kix_tup K) (pv 3) pe_int (fun _ _ => rfl)) (pa_cons (pv 1) pa_nil))))
        (pss_one (ps_setLc (i := 2) rfl sc_name_counts.nd rfl rfl (sw_true rfl rfl rfl (by decide +kernel)) (kpi_zip K (by rfl) T.z_zip (pa_cons (pv 2) (pa_cons (pv 4) pa_nil))) (blkOk_by (own := [("many", 6), ("more", 7)]) (N := N_name_counts) (sc := defScope s_name_counts) (by decide +kernel)) (fun _ _ _ _ _ => (kpg_tup K (n := 2) (by rfl) (pgs_cons (pg_name (i := 6) sc_name_counts.nd rfl (by first | exact .inl rfl | exact .inr rfl)) (pgs_cons (pg_name (i := 7) sc_name_counts.nd rfl (by first | exact .inl rfl | exact .inr rfl)) pgs_nil)))) (fun _ _ _ _ _ => pts_nil) (fun _ _ _ _ _ => (pe_op op_add (pv 6) (pe_op op_mul (pe_ix (kix_tup K) (pv 3) pe_int (fun _ _ => rfl)) (pv 7))))))) (pss_one (ps_augS (pv 2) (kpe_idxF K (pv 1) (pa_cons (pv 3) pa_nil)) (kget_list K) pe_int ip_add set_list)))))
    (pss_one (ps_ret (pv 2))))), ?_⟩
    clear hu hu64 hu2
    walk_at "wp"
    obtain ⟨ws, h1, h2⟩ := ha
    refine ⟨b, rfl, ⟨_, hb.sq⟩, lc_V (encI (N.map fun _ => 0)) (wk_tup hb.sq) (by rw [List.length_map]; omega) (by rw [encI_len, List.length_map, List.length_map]) (fun i x y H1 H2 hy e hx R hR => ?_) fun D H1 hD e hDl => ?_⟩
    · refine ⟨rfl, ?_⟩
      walk_at "wp"
      obtain ⟨hi, rfl⟩ := encI_at hy
      have e0 : ap (N.map fun _ => 0) i = 0 := by
        unfold ap
        rw [List.getD_eq_getElem?_getD, List.getElem?_map]
        cases N[i]? <;> rfl
      rw [e0] at hR
      exact hR _ (Ex.refl _)
    · walk_at "wp"
      refine ⟨a, rfl, ⟨_, stT (e _ _ h1)⟩, fr_W walk_tup (fun i σ H1 => Ex H H1 ∧ ∃ p x y, H p = none ∧ H1 p = some (.lst (encI (N.map fun z => (r.pre i).cnt z))) ∧ σ = [some (.ref a), some (.ref b), some (.ref p), x, y, none, none, none])
        ⟨e, D, _, _, hD, by rw [Row.pre_zero]; exact hDl, rfl⟩ (fun i σ H1 hi h => h.1.sqT (stT h1)) (fun i x σ H1 H2 hi h y => ?_) (fun σ H1 h => ?_)⟩
      · obtain ⟨e, p, x0, y0, hp, hp1, rfl⟩ := h
        obtain ⟨rfl, hx⟩ := y
        obtain ⟨it, hit, hpt⟩ := (h2.ei e.ei).get hx
        have hm := List.mem_of_getElem? hit
        have hn := Row.names_item hN hm
        have hb2 := Row.below_item hB hm
        have hpre := Row.pre_succ r i hit
        walk_at "wp"
        cases it with
        | inl z =>
          obtain rfl := hpt
          refine r_isi (.base (.str _)) (r := false) (by decide +kernel) ?_
          walk_at "wp"
          refine ⟨b, _, rfl, e.plT hb, ?_⟩
          walk_at "wp"
          obtain ⟨j, hj, hz⟩ := List.getElem_of_mem hn.1
          refine ⟨N, z, j, rfl, (e.plT hb).sq, by rw [List.getElem?_eq_getElem hj, hz], fun m hm2 e2 => ?_, ?_⟩
          · obtain ⟨hm3, hm4⟩ := List.getElem?_eq_some_iff.mp e2
            have := nd_inj nd hm3 hj (by rw [hm4, hz])
            omega
          refine r_getL (stL hp1) (encI_get (by rw [List.length_map]; exact hj)) ?_
          walk_at "wp"
          refine r_setL hp1 (by rw [encI_len, List.length_map]; exact hj) fun H3 m3 h3 => ?_
          refine ⟨e.mu m3 hp, p, _, _, hp, ?_, rfl⟩
          rw [h3, ap_mapN hj]
          have : (V.int (((r.pre i).cnt N[j] : Nat) + 1)) = V.int (((r.pre i).cnt N[j] + 1 : Nat) : Int) := by simp
          rw [this, encI_set]
          congr 3
          rw [hpre]
          refine List.ext_getElem (by simp) fun m q1 q2 => ?_
          rw [List.getElem_set]
          simp only [List.getElem_map]
          rw [Row.cnt_app]
          simp only [Row.single, Row.cnt]
          have q3 : m < N.length := by simpa using q2
          by_cases hmj : j = m
          · subst hmj
            rw [if_pos rfl, if_pos hz.symm]
          · rw [if_neg hmj, if_neg (fun e => hmj (nd_inj nd hj q3 (by rw [hz, e])))]
            omega
        | inr pp =>
          obtain ⟨j, c⟩ := pp
          have hdj := Row.depth_item hm
          obtain ⟨q, p2, rfl, hq, hr1⟩ := hpt
          refine r_isi (ty_tup hq) (r := true) (by decide +kernel) ?_
          walk_at "wp"
          refine r_ixT (n := 0) (stT hq) rfl ?_
          walk_at "wp"
          refine ⟨p2, b, j, N, rfl, hr1, e.plT hb, hn.1, nd, hl, hb2.2.1, by omega, fun p3 H3 hp3 e3 h3 => ?_⟩
          walk_at "wp"
          have hp1' := e3 _ _ hp1
          have L1 : (encI (N.map fun z => (r.pre i).cnt z)).length = N.length := by rw [encI_len, List.length_map]
          have L2 : (encI (N.map fun z => j.cnt z)).length = N.length := by rw [encI_len, List.length_map]
          refine ⟨p, p3, _, _, rfl, stL hp1', stL h3, lc_V (encI (N.map fun z => (r.pre (i + 1)).cnt z)) (wk_zip (n := N.length) (by rw [L1, L2, Nat.min_self]) (stL hp1') (stL h3)) (by omega) (by rw [encI_len, List.length_map]) (fun n x y H4 H5 hy e5 hx R hR => ?_) fun D H4 hD e4 hDl => ?_⟩
          · obtain ⟨t, u, v, rfl, hu, hv, ht, _⟩ := yp_get hx
            obtain ⟨hn1, rfl⟩ := encI_at hu
            obtain ⟨hn2, rfl⟩ := encI_at hv
            obtain ⟨hn3, rfl⟩ := encI_at hy
            rw [List.length_map] at hn1
            refine g_two (stT ht) ?_
            refine ⟨rfl, ?_⟩
            walk_at "wp"
            refine r_ixT (n := 1) (stT (e5 _ _ (e3 _ _ hq))) rfl ?_
            walk_at "wp"
            have hc := hb2.1
            refine r_mulL (by omega) (by omega) ?_
            walk_at "wp"
            rw [ap_mapN hn1, ap_mapN hn1]
            rw [ap_mapN hn1, hpre, Row.cnt_app] at hR
            have : (((r.pre i).cnt N[n] : Nat) : Int) + (c : Int) * ((j.cnt N[n] : Nat) : Int) = (((r.pre i).cnt N[n] + (Row.single (Sum.inr (j, c))).cnt N[n] : Nat) : Int) := by
              simp [Row.single, Row.cnt]
            rw [this]
            exact hR _ (Ex.refl _)
          · walk_at "wp"
            exact ⟨(e.trans e3).trans e4, D, _, _, (e.trans e3).free hD, hDl, rfl⟩
      · walk_at "wp"
        obtain ⟨e, p, x0, y0, hp, hp1, rfl⟩ := h
        walk_at "wp"
        rw [h2.len, Row.pre_all] at hp1
        exact k p H1 hp e hp1
def sp_row_counts : Sp := fun vs H Q _ => ∃ (a b : Addr) (r : Row Str) (N : List Str), vs = [.ref a, .ref b] ∧ Rw H a r ∧ PlT H b (N.map V.str) ∧ r.Names N ∧ N.Nodup ∧ N.length ≤ 100 ∧ (∀ z ∈ N, isName z) ∧ r.Below (2 ^ 64) ∧ r.depth < 4 ∧ ∀ p H', Ex H H' → H' p = some (.tup (encI (N.map fun x => r.cnt x))) → Q (.ref p) H'
theorem ok_row_counts (T : Tx K mg C A FD) : (FnOk P w K mg base CX0 7 (A 11) (FD 11) ["row", "names"] sp_row_counts) := by
  refine T.d_row_counts.F.ok sc_row_counts (fun vs H Q E h => by obtain ⟨a, b, r, N, rfl, ha, hb, hN, nd, hl, hz, hB, hd, k⟩ := h; rfl) (fun cdv A0 outer s H vs Q E hr h => ?_)
  obtain ⟨a, b, r, N, rfl, ha, hb, hN, nd, hl, hz, hB, hd, k⟩ := h
  have hu := hu_of hr
  have hu64 := hr.units
  have hu2 : _ + 65 < cLine := (fun {A : Around} {k} (hr : Room k A) => (by have := hr.un; omega : A.units + 65 < cLine)) hr
  refine ⟨_, (pss_cons (ps_expr (pe_call (ok_need_names T) (hr.mono (by decide)) (by rfl) T.d_need_names.g T.d_need_names.F.kp T.d_need_names.b .nil pass0 (pa_cons (pv 0) (pa_cons (pv 1) pa_nil))))
    (pss_one (ps_ret (kpe_tupleOf K (by rfl) T.z_tuple (pe_call (ok_name_counts T 4) (hr.mono (by decide)) (by rfl) T.d_name_counts.g T.d_name_counts.F.kp T.d_name_counts.b .nil pass0 (pa_cons (pv 0) (pa_cons (pv 1) pa_nil))))))), ?_⟩
  clear hu hu64 hu2
  walk_at "wp"
  refine ⟨a, b, r, N, rfl, ha, hb, hN, hz, hd, fun H1 e => ?_⟩
  walk_at "wp"
  refine ⟨a, b, r, N, rfl, ha.ex e, e.plT hb, hN, nd, hl, hB, hd, fun p H2 _ e2 h2 => ?_⟩
  refine r_tupL (stL h2) fun q H3 _ e3 h3 => ?_
  exact k q H3 ((e.trans e2).trans e3) h3

/-- deeds as a dict -/
def DicAt (H : Hp) (d : Addr) (ds : Ds) : Prop := ∃ kvs : List (Key × V), H d = some (.dK kvs) ∧ ∀ x f, (x, f) ∈ ds → ∃ q, valV kvs (Sum.inr x) = some (.ref q) ∧ H q = some (.tup (encI f))
theorem DicAt.ex {H H' : Hp} {d : Addr} {ds : Ds} (h : DicAt H d ds) (e : Ex H H') : DicAt H' d ds := let ⟨kvs, h1, h2⟩ := h; ⟨kvs, e _ _ h1, fun x f m => let ⟨q, h3, h4⟩ := h2 x f m; ⟨q, h3, e _ _ h4⟩⟩
theorem dl_mem {n : Nat} {ds : Ds} {x : Str} (h : x ∈ ds.map (·.1)) : (x, dl n ds x) ∈ ds := by
  unfold dl
  cases e : ds.lookup x with
  | some f => exact lookup_mem e
  | none =>
    exfalso
    obtain ⟨p, hp, rfl⟩ := List.mem_map.mp h
    have := List.lookup_eq_none_iff.mp e p hp
    simp at this
def sp_made_by (f0 : Addr) (d : Nat) : Sp := fun vs H Q _ => ∃ (a b c : Addr) (n : Nat) (r : Row Str) (ds : Ds), vs = [.ref a, .ref b, .ref c, .ref f0] ∧ Rw H a r ∧ DicAt H b ds ∧ H c = some (.tup (encI (idn n))) ∧ AllPm n ds ∧ n ≤ 100 ∧ r.Names (ds.map (·.1)) ∧ r.depth < d ∧
  ∀ p H', Ex H H' → H' p = some (.tup (encI (eff n ds r.flat))) → Q (.ref p) H'
theorem ok_made_by (T : Tx K mg C A FD) : ∀ d : Nat, (FnOk P w K mg base CX0 (d + 2) (A 16) (FD 16) ["row", "deeds", "nothing", "then"] (sp_made_by (A 14) d)) := by
  intro d
  induction d with
  | zero => exact ((no_ok (A 16) (FD 16) ["row", "deeds", "nothing", "then"]).mono (Nat.zero_le _)).imp fun vs H Q E h => by obtain ⟨_, _, _, _, _, _, _, _, _, _, _, _, _, h, _⟩ := h; omega
  | succ d ih =>
    refine T.d_made_by.F.ok sc_made_by (fun vs H Q E h => by obtain ⟨a, b, c, n, r, ds, rfl, ha, hb, hc, hA, hn, hN, hd, k⟩ := h; rfl) (fun cdv A0 outer s H vs Q E hr h => ?_)
    obtain ⟨a, b, c, n, r, ds, rfl, ha, hb, hc, hA, hn, hN, hd, k⟩ := h
    have hu := hu_of hr
    have hu64 := hr.units
    have hu2 : _ + 65 < cLine := (fun {A : Around} {k} (hr : Room k A) => (by have := hr.un; omega : A.units + 65 < cLine)) hr
    refine ⟨_, (pss_cons (ps_set (i := 4) sc_made_by.nd rfl (.inl rfl) (pv 2))
    (pss_cons (ps_for PassesOwn.never rfl (kpi_tup K (pv 0)) (pg_name (i := 5) sc_made_by.nd rfl (by first | exact .inl rfl | exact .inr rfl)) (pss_one (ps_if (pt_val (pe_callB (kcall_isi K) (by rfl) T.z_isinstance (by decide +kernel) (pa_cons (pv 5) (pa_cons (pe_bltn (v := .ty "tuple") (by rfl) T.z_tuple (by decide +kernel) rfl) pa_nil)))) (pss_cons (ps_set (i := 6) sc_made_by.nd rfl (.inl rfl) (pe_call ih (hr.mono (Nat.le_refl _)) (by rfl) T.d_made_by.g T.d_made_by.F.kp T.d_made_by.b .nil pass0 (pa_cons (pe_ix (kix_tup K) (pv 5) pe_int (fun _ _ => rfl)) (pa_cons (pv 1) (pa_cons (pv 2) (pa_cons (pv 3) pa_nil))))))
        (pss_one (ps_set (i := 4) sc_made_by.nd rfl (.inl rfl) (pe_callL (i := 3) (ok_effect_then T) (hr.mono (by omega)) rfl (Or.inl rfl) T.d_effect_then.F.kp T.d_effect_then.b .nil pass0 (pa_cons (pv 4) (pa_cons (pe_call (ok_power_by T) (hr.mono (by omega)) (by rfl) T.d_power_by.g T.d_power_by.F.kp T.d_power_by.b .nil pass0 (pa_cons (pv 6) (pa_cons (pe_ix (kix_tup K) (pv 5) pe_int (fun _ _ => rfl)) (pa_cons (pv 2) (pa_cons (pv 3) pa_nil))))) pa_nil)))))) (pss_one (ps_set (i := 4) sc_made_by.nd rfl (.inl rfl) (pe_callL (i := 3) (ok_effect_then T) (hr.mono (by omega)) rfl (Or.inl rfl) T.d_effect_then.F.kp T.d_effect_then.b .nil pass0 (pa_cons (pv 4) (pa_cons (pe_dget hu (pv 1) (pv 5) (fun _ _ => rfl)) pa_nil))))))))
    (pss_one (ps_ret (pv 4))))), ?_⟩
    clear hu hu64 hu2
    walk_at "wp"
    obtain ⟨ws, h1, h2⟩ := ha
    refine ⟨a, rfl, ⟨_, stT h1⟩, fr_W walk_tup (fun i σ H1 => Ex H H1 ∧ ∃ p x y, H1 p = some (.tup (encI (eff n ds (r.pre i).flat))) ∧ σ = [some (.ref a), some (.ref b), some (.ref c), some (.ref (A 14)), some (.ref p), x, y])
      ⟨Ex.refl _, c, _, _, by rw [Row.pre_zero]; exact hc, rfl⟩ (fun i σ H1 hi h => h.1.sqT (stT h1)) (fun i x σ H1 H2 hi h y => ?_) (fun σ H1 h => ?_)⟩
    · obtain ⟨e, p, x0, y0, hp, rfl⟩ := h
      obtain ⟨rfl, hx⟩ := y
      obtain ⟨it, hit, hpt⟩ := (h2.ei e.ei).get hx
      have hm := List.mem_of_getElem? hit
      have hn2 := Row.names_item hN hm
      have hpre := Row.pre_succ r i hit
      have P1 := eff_pm hA (r.pre i).flat
      walk_at "wp"
      cases it with
      | inl z =>
        obtain rfl := hpt
        refine r_isi (.base (.str _)) (r := false) (by decide +kernel) ?_
        walk_at "wp"
        refine ⟨rfl, ?_⟩
        walk_at "wp"
        obtain ⟨kvs, hk1, hk2⟩ := hb.ex e
        obtain ⟨q, hq1, hq2⟩ := hk2 z _ (dl_mem (n := n) hn2.1)
        refine ⟨_, _, rfl, dget_S hk1 hq1, ?_⟩
        walk_at "wp"
        have P2 := dl_pm hA z
        refine ⟨p, q, _, _, rfl, hp, hq2, fun x hx => by rw [P2.len]; exact P1.lt x hx, by rw [P1.len]; exact hn, fun p5 H5 e5 h5 => ?_⟩
        walk_at "wp"
        refine ⟨e.trans e5, p5, _, _, ?_, rfl⟩
        rw [h5, hpre, eff_app hA]
        simp only [Row.single]
        rw [show (Row.nm z (Row.nil : Row Str)).flat = [z] from rfl, eff_single hA]
      | inr pp =>
        obtain ⟨j, c2⟩ := pp
        have hdj := Row.depth_item hm
        obtain ⟨q, p2, rfl, hq, hr1⟩ := hpt
        refine r_isi (ty_tup hq) (r := true) (by decide +kernel) ?_
        walk_at "wp"
        refine r_ixT (n := 0) (stT hq) rfl ?_
        walk_at "wp"
        refine ⟨p2, b, c, n, j, ds, rfl, hr1, hb.ex e, e _ _ hc, hA, hn, hn2.1, by omega, fun p3 H3 e3 h3 => ?_⟩
        walk_at "wp"
        refine ⟨rfl, ?_⟩
        walk_at "wp"
        have P2 := eff_pm hA j.flat
        refine r_ixT (n := 1) (stT (e3 _ _ hq)) rfl ?_
        walk_at "wp"
        refine ⟨p3, c, n, c2, _, rfl, h3, e3 _ _ (e _ _ hc), P2, hn, fun p4 H4 e4 h4 => ?_⟩
        walk_at "wp"
        refine ⟨p, p4, _, _, rfl, e4 _ _ (e3 _ _ hp), h4, fun x hx => by rw [(P2.pw c2).len]; exact P1.lt x hx, by rw [P1.len]; exact hn, fun p5 H5 e5 h5 => ?_⟩
        walk_at "wp"
        refine ⟨((e.trans e3).trans e4).trans e5, p5, _, _, ?_, rfl⟩
        rw [h5, hpre, eff_app hA]
        simp only [Row.single]
        rw [eff_pow hA, show (Row.nil : Row Str).flat = [] from rfl, show eff n ds [] = idn n from rfl, cmp_id (P2.pw c2).ef]
    · walk_at "wp"
      obtain ⟨e, p, x0, y0, hp, rfl⟩ := h
      walk_at "wp"
      rw [h2.len, Row.pre_all] at hp
      exact k p H1 e hp

/-- dict(machine.deeds) -/
theorem mergeK_nodup : ∀ {more kvs : List (Key × V)}, (∀ p ∈ more, ∀ q ∈ kvs, p.1 ≠ q.1) → (more.map (·.1)).Nodup → mergeK kvs more = kvs ++ more
  | [], kvs, _, _ => by simp [mergeK]
  | p :: more, kvs, h, nd => by
    show mergeK (putK kvs p.1 p.2) more = _
    have e : putK kvs p.1 p.2 = kvs ++ [(p.1, p.2)] := by
      unfold putK
      rw [if_neg]
      intro ha
      obtain ⟨q, hq, e⟩ := List.any_eq_true.mp ha
      exact h p (List.mem_cons_self ..) q hq (of_decide_eq_true e).symm
    rw [e]
    rw [List.map_cons, List.nodup_cons] at nd
    rw [mergeK_nodup (fun a ha q hq => ?_) nd.2]
    · simp
    · rcases List.mem_append.mp hq with hq | hq
      · exact h a (List.mem_cons_of_mem _ ha) q hq
      · rw [List.mem_singleton] at hq
        subst hq
        intro e2
        exact nd.1 (by rw [← e2]; exact List.mem_map_of_mem ha)
theorem valV_nodup {κ : Type} [DecidableEq κ] {k : κ} {v : V} : ∀ {kvs : List (κ × V)}, (kvs.map (·.1)).Nodup → (k, v) ∈ kvs → valV kvs k = some v
  | [], _, h => by cases h
  | p :: kvs, nd, h => by
    rw [List.map_cons, List.nodup_cons] at nd
    rcases List.mem_cons.mp h with e | h
    · subst e
      exact valV_pos rfl
    · rw [valV_neg (fun e => nd.1 (by rw [e]; exact List.mem_map.mpr ⟨_, h, rfl⟩))]
      exact valV_nodup nd.2 h
theorem r_dictF {d : Addr} {H : Hp} {Q : VK} {vs : List V} {ds : Ds} (hd : PlT H d vs) (hv : DeedsAt H vs ds) (nd : (ds.map (·.1)).Nodup) (k : ∀ p H', H p = none → Ex H H' → DicAt H' p ds → Q (.ref p) H') : rDictF K [.ref d] H Q := by
  have hex : ∀ j, j < ds.length → ∃ u : Addr × (Key × V), vs[j]? = some (.ref u.1) ∧ SqT K H u.1 [kV u.2.1, u.2.2] ∧ ∃ x f q, ds[j]? = some (x, f) ∧ u.2 = (Sum.inr x, V.ref q) ∧ H q = some (.tup (encI f)) := fun j hj => by
    obtain ⟨p, q, h1, h2, h3⟩ := hv.2 j _ _ (List.getElem?_eq_getElem hj)
    exact ⟨(p, (Sum.inr _, .ref q)), h1, stT h2, _, _, q, List.getElem?_eq_getElem hj, rfl, h3⟩
  obtain ⟨us, hl, hu⟩ := listed ds.length hex
  have ev : vs = (us.map (·.1)).map V.ref := List.ext_getElem? fun j => by
    by_cases hj : j < ds.length
    · have e := List.getElem?_eq_getElem (l := us) (i := j) (by omega)
      rw [(hu j _ e).1, List.getElem?_map, List.getElem?_map, e]
      rfl
    · rw [List.getElem?_eq_none (by rw [hv.1]; omega), List.getElem?_eq_none (by rw [List.length_map, List.length_map]; omega)]
  have hp : Paired (fun p kv => SqT K H p [kV kv.1, kv.2]) (us.map (·.1)) (us.map (·.2)) := pairedOf (by rw [List.length_map, List.length_map]) fun j x y h1 h2 => by
    rw [List.getElem?_map, Option.map_eq_some_iff] at h1 h2
    obtain ⟨u, h1, rfl⟩ := h1
    obtain ⟨u', h2, rfl⟩ := h2
    rw [h1] at h2
    cases h2
    exact (hu j _ h1).2.1
  refine ⟨d, us.map (·.1), us.map (·.2), rfl, by rw [← ev]; exact hd, hp, fun p hp0 => k p _ hp0 (Ex.new hp0) ⟨_, upd_same, fun x f hm => ?_⟩⟩
  have ek : ((us.map (·.2)).map (·.1)) = (ds.map (·.1)).map Sum.inr := List.ext_getElem? fun j => by
    by_cases hj : j < ds.length
    · have e := List.getElem?_eq_getElem (l := us) (i := j) (by omega)
      obtain ⟨_, _, x, f, q, h1, h2, _⟩ := hu j _ e
      rw [List.getElem?_map, List.getElem?_map, e, List.getElem?_map, List.getElem?_map, h1]
      simp [h2]
    · rw [List.getElem?_eq_none (by simp; omega), List.getElem?_eq_none (by simp; omega)]
  have nd2 : ((us.map (·.2)).map (·.1)).Nodup := by rw [ek]; exact nodup_map nd fun a _ b _ e => Sum.inr.inj e
  rw [mergeK_nodup (fun _ _ _ h => by cases h) nd2, List.nil_append]
  obtain ⟨j, hj, e⟩ := List.getElem_of_mem hm
  have e1 := List.getElem?_eq_getElem (l := us) (i := j) (by omega)
  obtain ⟨_, _, x', f', q, h1, h2, h3⟩ := hu j _ e1
  rw [List.getElem?_eq_getElem hj, e] at h1
  cases h1
  refine ⟨q, ?_, by rw [upd_ne (ne_of_none h3 hp0)]; exact h3⟩
  exact valV_nodup nd2 (List.mem_map.mpr ⟨_, List.mem_of_getElem? e1, h2⟩)

def sp_row_effect (C0 : Addr) : Sp := fun vs H Q _ => ∃ (a b : Addr) (n : Nat) (r : Row Str) (ds : Ds), vs = [.ref a, .ref b] ∧ Mac C0 H a n ds ∧ Good n ds ∧ Rw H b r ∧ r.Names (ds.map (·.1)) ∧ r.depth < 4 ∧ ∀ p H', Ex H H' → H' p = some (.tup (encI (eff n ds r.flat))) → Q (.ref p) H'
theorem Good.names {n : Nat} {ds : Ds} (g : Good n ds) : ∀ z ∈ ds.map (·.1), isName z := fun z h => by
  obtain ⟨p, hp, rfl⟩ := List.mem_map.mp h
  exact g.name p hp
theorem ok_row_effect (T : Tx K mg C A FD) : (FnOk P w K mg base CX0 8 (A 17) (FD 17) ["machine", "row"] (sp_row_effect C)) := by
  refine T.d_row_effect.F.ok sc_row_effect (fun vs H Q E h => by obtain ⟨a, b, n, r, ds, rfl, hm, hg, hb, hN, hd, k⟩ := h; rfl) (fun cdv A0 outer s H vs Q E hr h => ?_)
  obtain ⟨a, b, n, r, ds, rfl, hm, hg, hb, hN, hd, k⟩ := h
  have hu := hu_of hr
  have hu64 := hr.units
  have hu2 : _ + 65 < cLine := (fun {A : Around} {k} (hr : Room k A) => (by have := hr.un; omega : A.units + 65 < cLine)) hr
  refine ⟨_, (pss_cons (ps_expr (pe_call (ok_need_names T) (hr.mono (by decide)) (by rfl) T.d_need_names.g T.d_need_names.F.kp T.d_need_names.b .nil pass0 (pa_cons (pv 1) (pa_cons (kpe_fld K (pv 0)) pa_nil))))
    (pss_one (ps_ret (pe_call (ok_made_by T 4) (hr.mono (by decide)) (by rfl) T.d_made_by.g T.d_made_by.F.kp T.d_made_by.b .nil pass0 (pa_cons (pv 1) (pa_cons (pe_callTy (kcall_dictF K rfl) (by rfl) T.z_dict (by decide +kernel) (pa_cons (kpe_fld K (pv 0)) pa_nil)) (pa_cons (pe_tupRg rfl (by rfl) T.z_tuple (prg_1 (by rfl) T.z_range (kpe_fld K (pv 0)))) (pa_cons (pe_glob (v := .ref (A 14)) (by rfl) T.d_effect_then.g rfl) pa_nil)))))))), ?_⟩
  clear hu hu64 hu2
  walk_at "wp"
  obtain ⟨dx, d, nm, vs, hm1, hm2, hm3, hm4⟩ := hm.ex
  refine ⟨a, C, dx, _, _, rfl, hm1, T.cl, T.nN, rfl, ?_⟩
  walk_at "wp"
  have e0 : (ds.map fun q => V.str q.1) = (ds.map (·.1)).map V.str := by rw [List.map_map]; rfl
  rw [e0] at hm4
  refine ⟨b, nm, r, _, rfl, hb, hm4, hN, hg.names, hd, fun H1 e1 => ?_⟩
  walk_at "wp"
  refine ⟨a, C, dx, _, _, rfl, e1 _ _ hm1, T.cl, T.nD, rfl, ?_⟩
  walk_at "wp"
  refine r_dictF (e1.plT hm2) (hm3.ei e1.ei) hg.apart fun p H2 hp e2 h2 => ?_
  walk_at "wp"
  refine ⟨a, C, dx, _, _, rfl, e2 _ _ (e1 _ _ hm1), T.cl, T.nS, rfl, ?_⟩
  refine ⟨_, rfl, r_rgT (n := n) (by have := hg.few; omega) fun q H3 hq e3 h3 => ?_⟩
  walk_at "wp"
  have e123 := (e1.trans e2).trans e3
  refine ⟨b, p, q, n, r, ds, rfl, hb.ex e123, h2.ex e3, h3, hg.perm, by have := hg.few; omega, hN, hd, fun p4 H4 e4 h4 => k p4 H4 (e123.trans e4) h4⟩

end
end Eo
namespace Eo
open PySem PyProof.Rows L2 L2.DX
/-! words of the walk: wp goes on where nothing is open; hl looks an object up; ex: what stood stands -/
local macro_rules | `(tactic| walk_at "hl") => `(tactic| first | assumption | exact PlT.sq (by assumption) | (refine stT ?_; walk_at "hl") | (refine stL ?_; walk_at "hl") | (refine Ex.at (by assumption) ?_; walk_at "hl") | (refine Mu.tup (by assumption) ?_; walk_at "hl") | (refine Ex.sqT (by assumption) ?_; walk_at "hl") | (refine Ex.sqL (by assumption) ?_; walk_at "hl") | (refine Ex.plT (by assumption) ?_; walk_at "hl") | (refine Mu.plT (by assumption) ?_; walk_at "hl"))
local macro_rules | `(tactic| walk_at "ex") => `(tactic| first | assumption | exact Ex.refl _ | (refine Ex.trans ?_ (by assumption); walk_at "ex") | (refine Ex.mu ?_ (by assumption) (by first | assumption | walk_at "fr"); walk_at "ex"))
local macro_rules | `(tactic| walk_at "fr") => `(tactic| first | assumption | (refine Ex.free (by assumption) ?_; walk_at "fr"))
local macro_rules | `(tactic| walk_at "rf") => `(tactic| with_unfolding_all rfl)
local macro_rules | `(tactic| walk_at "wp") => `(tactic| repeat (with_reducible first
  | refine q_seq ?_ | refine q_asg ?_ | refine q_ret ?_ | refine q_drop ?_ | refine q_if ?_ | refine q_next ?_ | refine q_par ?_ | refine q_par3 ?_ | refine q_retN ?_ | refine q_cont ?_ | refine q_brk ?_
  | refine e_var (by with_unfolding_all rfl) ?_ | refine e_c ?_ | refine e_op ?_ | refine e_cons ?_ | refine e_nil ?_ | refine e_test ?_ | refine e_B ?_ | refine e_yes ?_ | refine e_cb ?_ | refine e_call ?_ | refine e_then ?_ | refine e_tup ?_ | refine e_lst ?_
  | refine x_bl ?_ | refine i_T ?_ | refine i_F ?_ | refine x_two ?_ | refine x_three ?_
  | refine r_I0 ?_ | refine r_add ?_ | refine r_ip ?_ | refine g_nm ?_ | refine r_eqI ?_ | refine r_neI ?_ | refine r_eq (by with_unfolding_all rfl) ?_ | refine r_ne (by with_unfolding_all rfl) ?_
  | refine e_not ?_ | refine e_and ?_ | refine e_or ?_ | refine e_andV ?_ | refine e_orV ?_ | refine e_notV ?_ | refine e_ifx ?_ | refine e_idxF ?_ | refine e_idxI ?_ | refine e_sl ?_ | refine e_part ?_ | refine e_nopart ?_ | refine f_revA ?_ | refine e_lenSet ?_ | refine l_dcT ?_ | refine e_sadd ?_ | refine q_asgS ?_ | refine q_augS ?_ | refine e_tupRg ?_ | refine e_lstRg ?_ | refine e_rg1 ?_ | refine e_rg2 ?_ | refine e_dget ?_ | refine e_din ?_ | refine e_dnotin ?_ | refine e_dget2 ?_ | refine q_dput ?_ | refine e_un ?_ | refine e_chain ?_ | refine e_bm ?_ | refine e_bm0 ?_ | refine e_fld ?_ | refine q_asgT ?_
  | refine l_any ?_ | refine l_tup ?_ | refine l_list ?_ | refine l_rng1 ?_ | refine l_rng2 ?_ | refine l_str ?_ | refine l_enumL ?_ | refine l_enumT ?_ | refine l_zip ?_ | refine l_zipM ?_
  | refine f_tup ?_ | refine f_list ?_ | refine f_rng1 ?_ | refine f_enumL ?_ | refine f_enumT ?_))
local macro_rules | `(tactic| walk_at "sz") => `(tactic| first | decide | (refine small ?_; simp; done) | (refine small ?_; simp; omega) | (refine smallL ?_; simp; done) | (refine smallL ?_; simp; omega) | (simp; done) | (simp; omega))
section
variable {P : Program} {w : World} {K : PySem.W.Frag} {mg : Str → Option Value} {base : Heap} {C : Addr} {A : Nat → Addr} {FD : Nat → FuncData}
def sp_undone_effect : Sp := fun vs H Q _ => ∃ (a : Addr) (n : Nat) (f : List Nat), vs = [.ref a] ∧ H a = some (.tup (encI f)) ∧ Pm n f ∧ n ≤ 100 ∧ ∀ p H', Ex H H' → H' p = some (.tup (encI (inv f))) → Q (.ref p) H'
theorem ok_undone_effect (T : Tx K mg C A FD) : (FnOk P w K mg base CX0 1 (A 20) (FD 20) ["effect"] sp_undone_effect) := by
  refine T.d_undone_effect.F.ok sc_undone_effect (fun vs H Q E h => by obtain ⟨a, n, f, rfl, ha, hf, hn, k⟩ := h; rfl) (fun cdv A0 outer s H vs Q E hr h => ?_)
  obtain ⟨a, n, f, rfl, ha, hf, hn, k⟩ := h
  have hu := hu_of hr
  have hu64 := hr.units
  have hu2 : _ + 65 < cLine := (fun {A : Around} {k} (hr : Room k A) => (by have := hr.un; omega : A.units + 65 < cLine)) hr
  refine ⟨_, (pss_cons (ps_set (i := 1) sc_undone_effect.nd rfl (.inl rfl) (pe_op op_rep (pe_lst (pa_cons pe_int pa_nil)) (pe_callB (kcall_len K) (by rfl) T.z_len (by decide +kernel) (pa_cons (pv 0) pa_nil))))
    (pss_cons (ps_for PassesOwn.never rfl (kpi_enumT K (by rfl) T.z_enumerate (pa_cons (pv 0) pa_nil)) (kpg_tup K (n := 2) (by rfl) (pgs_cons (pg_name (i := 2) sc_undone_effect.nd rfl (by first | exact .inl rfl | exact .inr rfl)) (pgs_cons (pg_name (i := 3) sc_undone_effect.nd rfl (by first | exact .inl rfl | exact .inr rfl)) pgs_nil))) (pss_one (ps_asg (pv 2) (pg_sub (pv 1) (pv 3) set_list))))
    (pss_one (ps_ret (kpe_tupleOf K (by rfl) T.z_tuple (pv 1)))))), ?_⟩
  clear hu hu64 hu2
  walk_at "wp"
  refine al (by decide) fun l H1 hl e h1 => ?_
  walk_at "wp"
  refine r_lenT (stT (e _ _ ha)) ?_
  rw [encI_len, hf.len]
  refine r_rep1 (c := n) h1 (by omega) fun p H2 hp e2 h2 => ?_
  walk_at "wp"
  have e12 := e.trans e2
  refine ⟨a, _, rfl, stT (e12 _ _ ha), fr_W walk_enumT (fun i σ H1 => Ex H H1 ∧ ∃ g x y, σ = [some (.ref a), some (.ref p), x, y] ∧ H1 p = some (.lst (encI g)) ∧ g.length = n ∧ ∀ j, j < i → ap g (ap f j) = j)
    ⟨e12, List.replicate n 0, _, _, rfl, by rw [h2]; unfold encI; rw [List.map_replicate]; rfl, List.length_replicate, fun j hj => by omega⟩ (fun i σ H1 hi h => h.1.sqT (stT ha)) (fun i x σ H1 H2 hi h y => ?_) (fun σ H1 h => ?_)⟩
  · obtain ⟨e1, g, x0, y0, rfl, hg, gl, hj⟩ := h
    obtain ⟨t, u, v, rfl, hu, hv, ht, e3⟩ := yp_get y
    obtain ⟨hi2, rfl⟩ := encI_at hv
    cases hu
    rw [hf.len] at hi2
    refine g_two (stT ht) ?_
    walk_at "wp"
    refine r_setL (e3 _ _ hg) (by rw [encI_len, gl]; exact hf.ap_lt hi2) fun H5 m5 h5 => ?_
    refine ⟨(e1.trans e3).mu m5 (e.free hp), g.set (ap f i) i, _, _, rfl, by rw [h5, encI_set], by rw [List.length_set]; exact gl, fun j hj2 => ?_⟩
    unfold ap
    rw [List.getD_eq_getElem?_getD, List.getElem?_set]
    by_cases hji : j = i
    · subst hji
      rw [if_pos rfl, if_pos (by rw [gl]; exact hf.ap_lt hi2)]
      rfl
    · rw [if_neg (fun e => hji (hf.inj (by omega) hi2 e.symm))]
      rw [← List.getD_eq_getElem?_getD]
      exact hj j (by omega)
  · obtain ⟨e1, g, x0, y0, rfl, hg, gl, hj⟩ := h
    walk_at "wp"
    refine r_tupL (stL hg) fun q H3 _ e3 h3 => ?_
    have : g = inv f := ext_ap gl (by rw [inv_len, hf.len]) fun y hy => by
      obtain ⟨x, hx, rfl⟩ := hf.surj hy
      rw [ap_inv hf hx]
      exact hj x (by rw [encI_len, hf.len]; exact hx)
    rw [this] at h3
    exact k q H3 (e1.trans e3) h3
def sp_parted_state : Sp := fun vs H Q _ => ∃ (a b : Addr) (f g : List Nat), vs = [.ref a, .ref b] ∧ H a = some (.tup (encI f)) ∧ H b = some (.tup (encI g)) ∧ f.length = g.length ∧ f.length ≤ 100 ∧ (∀ i, i < f.length → ap f i ≠ ap g i → Q (.int (i : Nat)) H) ∧ (f = g → Q .non H)
theorem ok_parted_state (T : Tx K mg C A FD) : (FnOk P w K mg base CX0 1 (A 21) (FD 21) ["one", "other"] sp_parted_state) := by
  refine T.d_parted_state.F.ok sc_parted_state (fun vs H Q E h => by obtain ⟨a, b, f, g, rfl, ha, hb, he, hl, k1, k2⟩ := h; rfl) (fun cdv A0 outer s H vs Q E hr h => ?_)
  obtain ⟨a, b, f, g, rfl, ha, hb, he, hl, k1, k2⟩ := h
  have hu := hu_of hr
  have hu64 := hr.units
  have hu2 : _ + 65 < cLine := (fun {A : Around} {k} (hr : Room k A) => (by have := hr.un; omega : A.units + 65 < cLine)) hr
  refine ⟨_, (pss_cons (ps_for PassesOwn.never rfl (pi_range1 (by rfl) T.z_range (pa_cons (pe_callB (kcall_len K) (by rfl) T.z_len (by decide +kernel) (pa_cons (pv 0) pa_nil)) pa_nil)) (pg_name (i := 2) sc_parted_state.nd rfl (by first | exact .inl rfl | exact .inr rfl)) (pss_one (ps_if (pt_cmpR op_ne (pe_ix (kix_tup K) (pv 0) (pv 2) (fun _ _ => rfl)) (pe_ix (kix_tup K) (pv 1) (pv 2) (fun _ _ => rfl)) (nomark _)) (pss_one (ps_ret (pv 2))) pss_nil)))
    (pss_one (ps_ret pe_non))), ?_⟩
  clear hu hu64 hu2
  walk_at "wp"
  refine r_lenT (stT ha) ?_
  rw [encI_len]
  refine ⟨(f.length : Nat), rfl, by omega, by omega, fr_W walk_range (fun i σ H1 => H1 = H ∧ (∃ x, σ = [some (.ref a), some (.ref b), x]) ∧ ∀ j, j < i → ap f j = ap g j) ⟨rfl, ⟨_, rfl⟩, fun j hj => by omega⟩ (fun _ _ _ _ _ => trivial) (fun i x σ H1 H2 hi h y => ?_) (fun σ H1 h => ?_)⟩
  · obtain ⟨rfl, ⟨x0, rfl⟩, hj⟩ := h
    obtain ⟨rfl, rfl⟩ := y_rng y
    walk_at "wp"
    have hi2 : i < f.length := by simpa using hi
    refine r_ixE (stT ha) hi2 ?_
    walk_at "wp"
    refine r_ixE (stT hb) (by omega) ?_
    walk_at "wp"
    refine i_n (fun h => ?_) (fun h => ?_)
    · walk_at "wp"
      exact k1 i hi2 (by omega)
    · walk_at "wp"
      refine ⟨rfl, ⟨_, rfl⟩, fun j hj2 => ?_⟩
      by_cases hji : j = i
      · subst hji
        omega
      · exact hj j (by omega)
  · obtain ⟨rfl, ⟨x0, rfl⟩, hj⟩ := h
    walk_at "wp"
    exact k2 (ext_ap (n := f.length) rfl he.symm fun x hx => hj x (by simpa using hx))
def sp_first_still : Sp := fun vs H Q _ => ∃ (a : Addr) (f : List Nat), vs = [.ref a] ∧ H a = some (.tup (encI f)) ∧ (∀ i H', Ex H H' → i < f.length → ap f i = i → Q (.int (i : Nat)) H') ∧ (∀ H', Ex H H' → (∀ i, i < f.length → ap f i ≠ i) → Q .non H')
theorem ok_first_still (T : Tx K mg C A FD) : (FnOk P w K mg base CX0 1 (A 33) (FD 33) ["effect"] sp_first_still) := by
  refine T.d_first_still.F.ok sc_first_still (fun vs H Q E h => by obtain ⟨a, f, rfl, ha, k1, k2⟩ := h; rfl) (fun cdv A0 outer s H vs Q E hr h => ?_)
  obtain ⟨a, f, rfl, ha, k1, k2⟩ := h
  have hu := hu_of hr
  have hu64 := hr.units
  have hu2 : _ + 65 < cLine := (fun {A : Around} {k} (hr : Room k A) => (by have := hr.un; omega : A.units + 65 < cLine)) hr
  refine ⟨_, (pss_cons (ps_for PassesOwn.never rfl (kpi_enumT K (by rfl) T.z_enumerate (pa_cons (pv 0) pa_nil)) (kpg_tup K (n := 2) (by rfl) (pgs_cons (pg_name (i := 1) sc_first_still.nd rfl (by first | exact .inl rfl | exact .inr rfl)) (pgs_cons (pg_name (i := 2) sc_first_still.nd rfl (by first | exact .inl rfl | exact .inr rfl)) pgs_nil))) (pss_one (ps_if (pt_cmpR op_eq (pv 1) (pv 2) (nomark _)) (pss_one (ps_ret (pv 1))) pss_nil)))
    (pss_one (ps_ret pe_non))), ?_⟩
  clear hu hu64 hu2
  walk_at "wp"
  refine ⟨a, _, rfl, stT ha, fr_W walk_enumT (fun i σ H1 => Ex H H1 ∧ (∃ x y, σ = [some (.ref a), x, y]) ∧ ∀ j, j < i → ap f j ≠ j)
    ⟨Ex.refl _, ⟨_, _, rfl⟩, fun j hj => by omega⟩ (fun i σ H1 hi h => h.1.sqT (stT ha)) (fun i x σ H1 H2 hi h y => ?_) (fun σ H1 h => ?_)⟩
  · obtain ⟨e1, ⟨x0, y0, rfl⟩, hj⟩ := h
    obtain ⟨t, u, v, rfl, hu, hv, ht, e3⟩ := yp_get y
    obtain ⟨hi2, rfl⟩ := encI_at hv
    cases hu
    refine g_two (stT ht) ?_
    walk_at "wp"
    refine i_d (fun h => ?_) (fun h => ?_)
    · walk_at "wp"
      exact k1 i _ (e1.trans e3) hi2 (by omega)
    · walk_at "wp"
      refine ⟨e1.trans e3, ⟨_, _, rfl⟩, fun j hj2 => ?_⟩
      by_cases hji : j = i
      · subst hji
        omega
      · exact hj j (by omega)
  · obtain ⟨e1, ⟨x0, y0, rfl⟩, hj⟩ := h
    walk_at "wp"
    exact k2 H1 e1 fun i hi => hj i (by rw [encI_len]; exact hi)
def sp_resting_effect (C0 : Addr) : Sp := fun vs H Q _ => ∃ (a : Addr) (n : Nat) (ds : Ds), vs = [.ref a] ∧ Mac C0 H a n ds ∧ n ≤ 100 ∧ ∀ p H', Ex H H' → H' p = some (.tup (encI (idn n))) → Q (.ref p) H'
theorem ok_resting_effect (T : Tx K mg C A FD) : (FnOk P w K mg base CX0 1 (A 32) (FD 32) ["machine"] (sp_resting_effect C)) := by
  refine T.d_resting_effect.F.ok sc_resting_effect (fun vs H Q E h => by obtain ⟨a, n, ds, rfl, hm, hn, k⟩ := h; rfl) (fun cdv A0 outer s H vs Q E hr h => ?_)
  obtain ⟨a, n, ds, rfl, hm, hn, k⟩ := h
  have hu := hu_of hr
  have hu64 := hr.units
  have hu2 : _ + 65 < cLine := (fun {A : Around} {k} (hr : Room k A) => (by have := hr.un; omega : A.units + 65 < cLine)) hr
  refine ⟨_, (pss_one (ps_ret (pe_tupRg rfl (by rfl) T.z_tuple (prg_1 (by rfl) T.z_range (kpe_fld K (pv 0)))))), ?_⟩
  clear hu hu64 hu2
  walk_at "wp"
  obtain ⟨dx, d, nm, vs, hm1, hm2, hm3, hm4⟩ := hm.ex
  refine ⟨a, C, dx, _, _, rfl, hm1, T.cl, T.nS, rfl, ?_⟩
  refine ⟨_, rfl, r_rgT (n := n) (by omega) fun q H3 hq e3 h3 => ?_⟩
  exact k q H3 e3 h3

end
end Eo
namespace Eo
/-! rings of a turn, its round -/
structure Ring (n : Nat) (f r : List Nat) : Prop where
  pos : 0 < r.length
  at' : ∀ i, i < r.length → ap r i = ap (pw n f i) (ap r 0)
  back : ap (pw n f r.length) (ap r 0) = ap r 0
structure Rings (n : Nat) (f : List Nat) (rs : List (List Nat)) : Prop where
  all : ∀ r ∈ rs, Ring n f r
  nd : rs.flatten.Nodup
  lt : ∀ x ∈ rs.flatten, x < n
theorem mem_ap {l : List Nat} {x : Nat} (h : x ∈ l) : ∃ i, i < l.length ∧ ap l i = x := by
  obtain ⟨i, hi, e⟩ := List.getElem_of_mem h
  refine ⟨i, hi, ?_⟩
  have := ap_get hi
  rw [List.getElem?_eq_getElem hi, e] at this
  exact (Option.some.inj this).symm
theorem ap_inj {l : List Nat} (nd : l.Nodup) {i j : Nat} (hi : i < l.length) (hj : j < l.length) (e : ap l i = ap l j) : i = j := by
  have a := ap_get hi
  have b := ap_get hj
  rw [List.getElem?_eq_getElem hi] at a
  rw [List.getElem?_eq_getElem hj] at b
  have e2 : l[i] = l[j] := by rw [Option.some.inj a, Option.some.inj b, e]
  rcases Nat.lt_trichotomy i j with h | h | h
  · exact absurd e2 (List.pairwise_iff_getElem.mp nd i j hi hj h)
  · exact h
  · exact absurd e2.symm (List.pairwise_iff_getElem.mp nd j i hj hi h)
theorem ap_pw_succ {n f x} (h : Ef n f) (hx : x < n) (i : Nat) : ap (pw n f (i + 1)) x = ap f (ap (pw n f i) x) := by rw [ap_pw_add h hx, pw_one h]
/-- what leads into a ring lies in it -/
theorem Ring.into {n f r x} (hf : Pm n f) (h : Ring n f r) (hr : ∀ y ∈ r, y < n) (hx : x < n) (m : ap f x ∈ r) : x ∈ r := by
  obtain ⟨i, hi, e⟩ := mem_ap m
  have h0 : ap r 0 < n := hr _ (ap_mem h.pos)
  rw [h.at' i hi] at e
  cases i with
  | zero =>
    have e1 : ap (pw n f 0) (ap r 0) = ap r 0 := ap_idn h0
    have hb := h.back
    obtain ⟨L, hL⟩ : ∃ L, r.length = L + 1 := ⟨r.length - 1, by have := h.pos; omega⟩
    rw [hL, ap_pw_succ hf.ef h0] at hb
    rw [e1] at e
    have := hf.inj ((hf.pw L).ap_lt h0) hx (hb.trans e)
    rw [← this, ← h.at' L (by omega)]
    exact ap_mem (by omega)
  | succ i =>
    rw [ap_pw_succ hf.ef h0] at e
    have := hf.inj ((hf.pw i).ap_lt h0) hx e
    rw [← this, ← h.at' i (by omega)]
    exact ap_mem (by omega)
theorem Rings.into {n f rs x} (hf : Pm n f) (h : Rings n f rs) (hx : x < n) (m : ap f x ∈ rs.flatten) : x ∈ rs.flatten := by
  obtain ⟨r, hr, hm⟩ := List.mem_flatten.mp m
  exact List.mem_flatten.mpr ⟨r, hr, (h.all r hr).into hf (fun y hy => h.lt y (List.mem_flatten.mpr ⟨r, hr, hy⟩)) hx hm⟩
/-- a ring that closes -/
theorem Rings.snoc {n f rs r x} (hf : Pm n f) (h : Rings n f rs) (hx : x < n) (hat : ∀ i, i < r.length → ap r i = ap (pw n f i) x) (nd : (rs.flatten ++ r).Nodup) (hm : ap (pw n f r.length) x ∈ r) : Rings n f (rs ++ [r]) := by
  obtain ⟨j, hj, e⟩ := mem_ap hm
  have ndr : r.Nodup := (List.nodup_append.mp nd).2.1
  have h0 : ap r 0 = x := by
    rw [hat 0 (by omega)]
    exact ap_idn hx
  have j0 : j = 0 := by
    rw [hat j hj] at e
    have e1 : r.length = (r.length - j) + j := by omega
    rw [e1, ap_pw_add hf.ef hx] at e
    have e2 := (hf.pw j).inj hx ((hf.pw _).ap_lt hx) e
    by_cases hz : j = 0
    · exact hz
    · have h2 : r.length - j < r.length := by omega
      have := ap_inj ndr (by omega : 0 < r.length) h2 (by rw [hat _ h2, ← e2, h0])
      omega
  subst j0
  refine ⟨fun s hs => ?_, by rw [List.flatten_append]; simpa using nd, fun y hy => ?_⟩
  · rcases List.mem_append.mp hs with hs | hs
    · exact h.all s hs
    · rw [List.mem_singleton] at hs
      subst hs
      exact ⟨hj, fun i hi => by rw [h0]; exact hat i hi, by rw [h0]; rw [h0] at e; exact e.symm⟩
  · rw [List.flatten_append, List.mem_append] at hy
    rcases hy with hy | hy
    · exact h.lt y hy
    · simp at hy
      obtain ⟨i, hi, rfl⟩ := mem_ap hy
      rw [hat i hi]
      exact (hf.pw i).ap_lt hx
/-- a power that is nothing -/
structure Rnd (n : Nat) (f : List Nat) (R : Nat) : Prop where
  pos : 0 < R
  le : R ≤ 2 ^ n
  id : pw n f R = idn n
theorem rnd_of {n f rs R} (hf : Pm n f) (h : Rings n f rs) (hall : ∀ x, x < n → x ∈ rs.flatten) (hd : ∀ r ∈ rs, r.length ∣ R) : pw n f R = idn n :=
  ext_ap (hf.pw R).len (idn_len n) fun x hx => by
    rw [ap_idn hx]
    obtain ⟨r, hr, hm⟩ := List.mem_flatten.mp (hall x hx)
    obtain ⟨i, hi, e⟩ := mem_ap hm
    have hR := h.all r hr
    have h0 : ap r 0 < n := h.lt _ (List.mem_flatten.mpr ⟨r, hr, ap_mem hR.pos⟩)
    refine ap_pw_dvd hf.ef hx (r := r.length) ?_ (hd r hr)
    rw [← e, hR.at' i hi, ← ap_pw_add hf.ef h0, Nat.add_comm, ap_pw_add hf.ef h0, hR.back]
theorem pow_bound {a b c d : Nat} (h1 : a ≤ 2 ^ c) (h2 : b ≤ d) : Nat.lcm a b ≤ 2 ^ (c + d) := by
  have hb : b ≤ 2 ^ d := Nat.le_trans h2 (Nat.le_of_lt Nat.lt_two_pow_self)
  have : Nat.lcm a b ≤ a * b := by
    by_cases hz : a * b = 0
    · rcases Nat.mul_eq_zero.mp hz with h | h <;> subst h <;> simp
    · exact Nat.le_of_dvd (by omega) (Nat.lcm_dvd_mul a b)
  rw [Nat.pow_add]
  exact Nat.le_trans this (Nat.mul_le_mul h1 hb)
end Eo
namespace Eo
open PySem PyProof.Rows L2 L2.DX
/-! words of the walk: wp goes on where nothing is open; hl looks an object up; ex: what stood stands -/
local macro_rules | `(tactic| walk_at "hl") => `(tactic| first | assumption | exact PlT.sq (by assumption) | (refine stT ?_; walk_at "hl") | (refine stL ?_; walk_at "hl") | (refine Ex.at (by assumption) ?_; walk_at "hl") | (refine Mu.tup (by assumption) ?_; walk_at "hl") | (refine Ex.sqT (by assumption) ?_; walk_at "hl") | (refine Ex.sqL (by assumption) ?_; walk_at "hl") | (refine Ex.plT (by assumption) ?_; walk_at "hl") | (refine Mu.plT (by assumption) ?_; walk_at "hl"))
local macro_rules | `(tactic| walk_at "ex") => `(tactic| first | assumption | exact Ex.refl _ | (refine Ex.trans ?_ (by assumption); walk_at "ex") | (refine Ex.mu ?_ (by assumption) (by first | assumption | walk_at "fr"); walk_at "ex"))
local macro_rules | `(tactic| walk_at "fr") => `(tactic| first | assumption | (refine Ex.free (by assumption) ?_; walk_at "fr"))
local macro_rules | `(tactic| walk_at "rf") => `(tactic| with_unfolding_all rfl)
local macro_rules | `(tactic| walk_at "wp") => `(tactic| repeat (with_reducible first
  | refine q_seq ?_ | refine q_asg ?_ | refine q_ret ?_ | refine q_drop ?_ | refine q_if ?_ | refine q_next ?_ | refine q_par ?_ | refine q_par3 ?_ | refine q_retN ?_ | refine q_cont ?_ | refine q_brk ?_
  | refine e_var (by with_unfolding_all rfl) ?_ | refine e_c ?_ | refine e_op ?_ | refine e_cons ?_ | refine e_nil ?_ | refine e_test ?_ | refine e_B ?_ | refine e_yes ?_ | refine e_cb ?_ | refine e_call ?_ | refine e_then ?_ | refine e_tup ?_ | refine e_lst ?_
  | refine x_bl ?_ | refine i_T ?_ | refine i_F ?_ | refine x_two ?_ | refine x_three ?_
  | refine r_I0 ?_ | refine r_add ?_ | refine r_ip ?_ | refine g_nm ?_ | refine r_eqI ?_ | refine r_neI ?_ | refine r_eq (by with_unfolding_all rfl) ?_ | refine r_ne (by with_unfolding_all rfl) ?_
  | refine e_not ?_ | refine e_and ?_ | refine e_or ?_ | refine e_andV ?_ | refine e_orV ?_ | refine e_notV ?_ | refine e_ifx ?_ | refine e_idxF ?_ | refine e_idxI ?_ | refine e_sl ?_ | refine e_part ?_ | refine e_nopart ?_ | refine f_revA ?_ | refine e_lenSet ?_ | refine l_dcT ?_ | refine e_sadd ?_ | refine q_asgS ?_ | refine q_augS ?_ | refine e_tupRg ?_ | refine e_lstRg ?_ | refine e_rg1 ?_ | refine e_rg2 ?_ | refine e_dget ?_ | refine e_din ?_ | refine e_dnotin ?_ | refine e_dget2 ?_ | refine q_dput ?_ | refine e_un ?_ | refine e_chain ?_ | refine e_bm ?_ | refine e_bm0 ?_ | refine e_fld ?_ | refine q_asgT ?_
  | refine l_any ?_ | refine l_tup ?_ | refine l_list ?_ | refine l_rng1 ?_ | refine l_rng2 ?_ | refine l_str ?_ | refine l_enumL ?_ | refine l_enumT ?_ | refine l_zip ?_ | refine l_zipM ?_
  | refine f_tup ?_ | refine f_list ?_ | refine f_rng1 ?_ | refine f_enumL ?_ | refine f_enumT ?_))
local macro_rules | `(tactic| walk_at "sz") => `(tactic| first | decide | (refine small ?_; simp; done) | (refine small ?_; simp; omega) | (refine smallL ?_; simp; done) | (refine smallL ?_; simp; omega) | (simp; done) | (simp; omega))
section
variable {P : Program} {w : World} {K : PySem.W.Frag} {mg : Str → Option Value} {base : Heap} {C : Addr} {A : Nat → Addr} {FD : Nat → FuncData}
theorem nm0 {α : Type} {x : α} {p : Prop} (h : x ∈ ([] : List α)) : p := by cases h
/-- tuples of numbers in a list or a tuple -/
def TupsAt (H : Hp) (vs : List V) (fs : List (List Nat)) : Prop := vs.length = fs.length ∧ ∀ (i : Nat) (f : List Nat), fs[i]? = some f → ∃ p, vs[i]? = some (.ref p) ∧ H p = some (.tup (encI f))
theorem TupsAt.ei {H H' : Hp} {vs : List V} {fs : List (List Nat)} (h : TupsAt H vs fs) (e : EI H H') : TupsAt H' vs fs := ⟨h.1, fun i f hi => let ⟨p, h1, h2⟩ := h.2 i f hi; ⟨p, h1, e.tup h2⟩⟩
theorem TupsAt.nil (H : Hp) : TupsAt H [] [] := ⟨rfl, fun i f e => by simp at e⟩
theorem snoc_get {α : Type} {l : List α} {x y : α} {i : Nat} (e : (l ++ [x])[i]? = some y) : (i < l.length ∧ l[i]? = some y) ∨ (i = l.length ∧ y = x) := by
  by_cases hi : i < l.length
  · rw [List.getElem?_append_left hi] at e
    exact .inl ⟨hi, e⟩
  · rw [List.getElem?_append_right (by omega)] at e
    have : i - l.length = 0 := by
      have := (List.getElem?_eq_some_iff.mp e).1
      rw [List.length_singleton] at this
      omega
    rw [this] at e
    exact .inr ⟨by omega, (Option.some.inj e).symm⟩
theorem snoc_last {α : Type} (l : List α) (x : α) : (l ++ [x])[l.length]? = some x := by
  rw [List.getElem?_append_right (Nat.le_refl _), Nat.sub_self]
  rfl
theorem TupsAt.snoc {H : Hp} {vs : List V} {fs : List (List Nat)} {p : Addr} {f : List Nat} (h : TupsAt H vs fs) (h1 : H p = some (.tup (encI f))) : TupsAt H (vs ++ [.ref p]) (fs ++ [f]) := by
  refine ⟨by rw [List.length_append, List.length_append, h.1]; rfl, fun i g e => ?_⟩
  rcases snoc_get e with ⟨hi, e⟩ | ⟨rfl, rfl⟩
  · obtain ⟨a, k1, k2⟩ := h.2 i g e
    exact ⟨a, by rw [List.getElem?_append_left (by rw [h.1]; exact hi)]; exact k1, k2⟩
  · exact ⟨p, by rw [← h.1]; exact snoc_last _ _, h1⟩
theorem TupsAt.get {H : Hp} {vs : List V} {fs : List (List Nat)} (h : TupsAt H vs fs) {i : Nat} {v : V} (e : vs[i]? = some v) : ∃ f p, fs[i]? = some f ∧ v = .ref p ∧ H p = some (.tup (encI f)) := by
  have hi : i < fs.length := by rw [← h.1]; exact (List.getElem?_eq_some_iff.mp e).1
  obtain ⟨p, h1, h2⟩ := h.2 i _ (List.getElem?_eq_getElem hi)
  rw [e] at h1
  exact ⟨_, p, List.getElem?_eq_getElem hi, Option.some.inj h1, h2⟩
theorem r_tupE {K : PySem.W.Frag} {H : Hp} {Q : VK} {p : Addr} {f : List Nat} (h : H p = some (.lst (encI f))) (k : ∀ q H1, H q = none → Ex H H1 → H1 q = some (.tup (encI f)) → Q (.ref q) H1) : kTup K (.ref p) H Q := r_tupL (stL h) k
theorem encI_snoc (f : List Nat) (x : Nat) : encI f ++ [.int (x : Nat)] = encI (f ++ [x]) := by unfold encI; rw [List.map_append]; rfl
def sp_turn_rings : Sp := fun vs H Q _ => ∃ (a : Addr) (n : Nat) (f : List Nat), vs = [.ref a] ∧ H a = some (.tup (encI f)) ∧ Pm n f ∧ n ≤ 100 ∧ ∀ p H' ws rs, Ex H H' → H' p = some (.tup ws) → TupsAt H' ws rs → Rings n f rs → (∀ x, x < n → x ∈ rs.flatten) → Q (.ref p) H'
def InSet (S : Int → Bool) (l : List Nat) : Prop := ∀ k : Int, S k = true ↔ ∃ x : Nat, k = x ∧ x ∈ l
theorem InSet.dec {S : Int → Bool} {l : List Nat} (h : InSet S l) (x : Nat) : S x = decide (x ∈ l) := by
  cases e : S (x : Int) with
  | true =>
    obtain ⟨y, h1, h2⟩ := (h x).mp e
    have : x = y := by omega
    subst this
    exact (decide_eq_true h2).symm
  | false =>
    refine (decide_eq_false fun m => ?_).symm
    rw [(h x).mpr ⟨x, rfl, m⟩] at e
    cases e
theorem ok_turn_rings (T : Tx K mg C A FD) : (FnOk P w K mg base CX0 1 (A 22) (FD 22) ["turn"] sp_turn_rings) := by
  refine T.d_turn_rings.F.ok sc_turn_rings (fun vs H Q E h => by obtain ⟨a, n, f, rfl, ha, hf, hn, k⟩ := h; rfl) (fun cdv A0 outer s H vs Q E hr h => ?_)
  obtain ⟨a, n, f, rfl, ha, hf, hn, k⟩ := h
  have hu := hu_of hr
  have hu64 := hr.units
  have hu2 : _ + 65 < cLine := (fun {A : Around} {k} (hr : Room k A) => (by have := hr.un; omega : A.units + 65 < cLine)) hr
  refine ⟨_, (pss_cons (ps_set (i := 1) sc_turn_rings.nd rfl (.inl rfl) (pe_callTy0 (kcr_set0 w) (by rfl) T.z_set (by decide +kernel)))
    (pss_cons (ps_set (i := 2) sc_turn_rings.nd rfl (.inl rfl) (pe_lst pa_nil))
    (pss_cons (ps_for PassesOwn.never rfl (pi_range1 (by rfl) T.z_range (pa_cons (pe_callB (kcall_len K) (by rfl) T.z_len (by decide +kernel) (pa_cons (pv 0) pa_nil)) pa_nil)) (pg_name (i := 3) sc_turn_rings.nd rfl (by first | exact .inl rfl | exact .inr rfl)) (pss_cons (ps_if (pt_cmpR (kor_sin w) (pv 3) (pv 1) rfl) (pss_one ps_continue) pss_nil)
      (pss_cons (ps_par (i := 4) (j := 5) rfl sc_turn_rings.nd rfl rfl (by decide) rfl rfl (pa_cons (pe_lst pa_nil) (pa_cons (pv 3) pa_nil)) rfl)
      (pss_cons (ps_while PassesOwn.never (pt_cmpR (kor_snotin w) (pv 5) (pv 1) rfl) (pss_cons (ps_expr (kpe_sadd w (pv 1) (pa_cons (pv 5) pa_nil)))
        (pss_cons (ps_expr (kpe_bm K PySem.F.plainAttrs_list PySem.F.slot_list_append PySem.F.type_list_append mt_append (pv 4) (pa_cons (pv 5) pa_nil)))
        (pss_one (ps_set (i := 5) sc_turn_rings.nd rfl (.inl rfl) (pe_ix (kix_tup K) (pv 0) (pv 5) (fun _ _ => rfl)))))))
      (pss_one (ps_expr (kpe_bm K PySem.F.plainAttrs_list PySem.F.slot_list_append PySem.F.type_list_append mt_append (pv 2) (pa_cons (kpe_tupleOf K (by rfl) T.z_tuple (pv 4)) pa_nil))))))))
    (pss_one (ps_ret (kpe_tupleOf K (by rfl) T.z_tuple (pv 2))))))), ?_⟩
  clear hu hu64 hu2
  walk_at "wp"
  refine r_set0 fun m H1 hm e1 h1 => ?_
  walk_at "wp"
  refine al (by decide) fun l H2 hl e2 h2 => ?_
  walk_at "wp"
  refine r_lenT (stT (e2 _ _ (e1 _ _ ha))) ?_
  rw [encI_len, hf.len]
  have hml : m ≠ l := ne_of_none h1 hl
  refine ⟨(n : Nat), rfl, by omega, by omega, fr_W walk_range (fun i σ H3 => Ex H H3 ∧ ∃ x y z S c ws rs, σ = [some (.ref a), some (.ref m), some (.ref l), x, y, z] ∧ H3 m = some (SetO w m S c) ∧ H3 l = some (.lst ws) ∧ TupsAt H3 ws rs ∧ Rings n f rs ∧ InSet S rs.flatten ∧ c ≤ rs.flatten.length ∧ ws.length ≤ i ∧ ∀ x, x < i → x ∈ rs.flatten)
    ⟨e1.trans e2, _, _, _, _, _, _, [], rfl, e2 _ _ h1, h2, TupsAt.nil _, ⟨fun r h => nm0 h, List.nodup_nil, fun x h => nm0 h⟩, fun k => ⟨fun h => (nomatch h), fun ⟨x, _, h⟩ => nm0 h⟩, Nat.zero_le _, Nat.zero_le _, fun x h => by omega⟩ (fun _ _ _ _ _ => trivial) (fun i x σ H3 H4 hi h y => ?_) (fun σ H3 h => ?_)⟩
  · obtain ⟨e3, x0, y0, z0, S, c, ws, rs, rfl, hS, hL, hT, hR, hI, hc, hw, hx⟩ := h
    obtain ⟨rfl, rfl⟩ := y_rng y
    have hi2 : i < n := by simpa using hi
    have hfl : rs.flatten.length ≤ n := nodup_lt_len hR.nd hR.lt
    walk_at "wp"
    refine r_sin hS ?_
    walk_at "wp"
    rw [hI.dec]
    refine i_d (fun h => ?_) (fun h => ?_)
    · walk_at "wp"
      refine ⟨e3, _, _, _, S, c, ws, rs, rfl, hS, hL, hT, hR, hI, hc, by omega, fun x hx2 => ?_⟩
      by_cases hxi : x = i
      · subst hxi; exact h
      · exact hx x (by omega)
    · walk_at "wp"
      refine al (by decide) fun r H5 hr e5 h5 => ?_
      walk_at "wp"
      have hrl : l ≠ r := ne_of_none hL hr
      have hrm : m ≠ r := ne_of_none hS hr
      refine w_W (fun q σ H6 => Ex H H6 ∧ ∃ st S c R, σ = [some (.ref a), some (.ref m), some (.ref l), some (.int (i : Nat)), some (.ref r), some (.int (st : Nat))] ∧ H6 m = some (SetO w m S c) ∧ H6 l = some (.lst ws) ∧ TupsAt H6 ws rs ∧ H6 r = some (.lst (encI R)) ∧ InSet S (rs.flatten ++ R) ∧ c ≤ (rs.flatten ++ R).length ∧ (rs.flatten ++ R).Nodup ∧ (∀ x ∈ R, x < n) ∧
          st = ap (pw n f R.length) i ∧ (∀ j, j < R.length → ap R j = ap (pw n f j) i) ∧ st ∉ rs.flatten ∧ q + R.length = n) n
        ⟨e3.trans e5, i, S, c, [], rfl, e5 _ _ hS, e5 _ _ hL, hT.ei e5.ei, h5, by rw [List.append_nil]; exact hI, by rw [List.append_nil]; exact hc, by rw [List.append_nil]; exact hR.nd, fun x h => nm0 h, (ap_idn hi2).symm, fun j hj => absurd hj (Nat.not_lt_zero j), h, rfl⟩ (fun q σ H6 g => ?_)
      obtain ⟨e6, st, S', c', R, rfl, gS, gL, gT, gR, gI, gc, gn, gl, gst, gat, gno, gq⟩ := g
      have hst : st < n := by rw [gst]; exact (hf.pw _).ap_lt hi2
      have hlen : (rs.flatten ++ R).length ≤ n := nodup_lt_len gn fun x hx => by
        rcases List.mem_append.mp hx with hx | hx
        · exact hR.lt x hx
        · exact gl x hx
      walk_at "wp"
      refine r_snotin gS ?_
      walk_at "wp"
      rw [gI.dec]
      refine i_n (fun g => w_N ?_) (fun g => ?_)
      · walk_at "wp"
        refine ⟨⟨m, S', c', rfl, gS⟩, ?_⟩
        walk_at "wp"
        refine r_sadd gS (by omega) fun H7 c2 m7 h7 hc2 => ?_
        walk_at "wp"
        have R7 := m7.rest r _ (Ne.symm hrm) gR
        have L7 := m7.rest l _ (Ne.symm hml) gL
        refine ty_list (stL R7) ?_
        walk_at "wp"
        refine r_app R7 (smallL (by rw [encI_len]; rw [List.length_append] at hlen; omega)) fun H8 m8 h8 => ?_
        walk_at "wp"
        have E8 : Ex H H8 := (e6.mu m7 hm).mu m8 (e3.free hr)
        refine r_ixE (stT (E8 _ _ ha)) (by rw [hf.len]; exact hst) ?_
        walk_at "wp"
        have glen : R.length < n := by
          have : (rs.flatten ++ R ++ [st]).Nodup := by
            rw [List.nodup_append]
            exact ⟨gn, by simp, fun x hx y hy e => by rw [List.mem_singleton] at hy; subst hy; subst e; exact g hx⟩
          have := nodup_lt_len this (n := n) fun x hx => by
            rcases List.mem_append.mp hx with hx | hx
            · rcases List.mem_append.mp hx with hx | hx
              · exact hR.lt x hx
              · exact gl x hx
            · rw [List.mem_singleton] at hx; subst hx; exact hst
          simp only [List.length_append, List.length_singleton] at this
          omega
        refine ⟨q - 1, by omega, E8, ap f st, _, c2, R ++ [st], rfl, m8.rest m _ hrm h7, m8.rest l _ hrl L7, (gT.ei m7.ei).ei m8.ei, by rw [h8, encI_snoc], fun k => ?_, ?_, ?_, fun x hx => ?_, ?_, fun j hj => ?_, fun g2 => ?_, ?_⟩
        · rw [Bool.or_eq_true, gI k, decide_eq_true_eq]
          constructor
          · rintro (⟨x, h1, h2⟩ | h)
            · exact ⟨x, h1, by rw [← List.append_assoc]; exact List.mem_append_left _ h2⟩
            · exact ⟨st, h, by simp⟩
          · rintro ⟨x, h1, h2⟩
            rw [← List.append_assoc] at h2
            rcases List.mem_append.mp h2 with h2 | h2
            · exact .inl ⟨x, h1, h2⟩
            · rw [List.mem_singleton] at h2
              subst h2
              exact .inr h1
        · simp only [List.length_append, List.length_singleton] at gc ⊢
          omega
        · rw [← List.append_assoc, List.nodup_append]
          exact ⟨gn, by simp, fun x hx y hy e => by rw [List.mem_singleton] at hy; subst hy; subst e; exact g hx⟩
        · rcases List.mem_append.mp hx with hx | hx
          · exact gl x hx
          · rw [List.mem_singleton] at hx; subst hx; exact hst
        · rw [List.length_append, List.length_singleton, ap_pw_succ hf.ef hi2, ← gst]
        · by_cases hj2 : j < R.length
          · rw [← gat j hj2]
            unfold ap
            rw [List.getD_eq_getElem?_getD, List.getElem?_append_left hj2, ← List.getD_eq_getElem?_getD]
          · have ej : j = R.length := by rw [List.length_append, List.length_singleton] at hj; omega
            subst ej
            rw [← gst]
            unfold ap
            rw [List.getD_eq_getElem?_getD, snoc_last]
            rfl
        · exact gno (hR.into hf hst g2)
        · rw [List.length_append, List.length_singleton]
          omega
      · walk_at "wp"
        refine ty_list (stL gL) ?_
        walk_at "wp"
        refine r_tupE gR fun t H7 ht e7 h7 => ?_
        walk_at "wp"
        refine r_app (e7 _ _ gL) (smallL (by omega)) fun H8 m8 h8 => ?_
        have gm : st ∈ R := by
          rcases List.mem_append.mp g with g | g
          · exact absurd g gno
          · exact g
        have hR2 := hR.snoc hf hi2 gat gn (by rw [← gst]; exact gm)
        have hmem : ∀ x, x ∈ (rs ++ [R]).flatten ↔ x ∈ rs.flatten ++ R := fun x => by simp
        refine ⟨(e6.trans e7).mu m8 (e1.free hl), _, _, _, S', c', ws ++ [.ref t], rs ++ [R], rfl, m8.rest m _ hml (e7 _ _ gS), h8, ((gT.ei e7.ei).ei m8.ei).snoc (m8.tup h7), hR2, fun k => ?_, by simpa using gc, ?_, fun x hx2 => ?_⟩
        · rw [gI k]
          constructor
          · rintro ⟨x, h1, h2⟩
            exact ⟨x, h1, (hmem x).mpr h2⟩
          · rintro ⟨x, h1, h2⟩
            exact ⟨x, h1, (hmem x).mp h2⟩
        · rw [List.length_append, List.length_singleton]
          omega
        · rw [hmem]
          by_cases hxi : x = i
          · subst hxi
            have h0 : 0 < R.length := by
              cases R with
              | nil => cases gm
              | cons _ _ => exact Nat.succ_pos _
            have := ap_mem h0
            rw [gat 0 h0, show ap (pw n f 0) x = x from ap_idn hi2] at this
            exact List.mem_append_right _ this
          · exact List.mem_append_left _ (hx x (by omega))
  · obtain ⟨e3, x0, y0, z0, S, c, ws, rs, rfl, hS, hL, hT, hR, hI, hc, hw, hx⟩ := h
    walk_at "wp"
    refine r_tupL (stL hL) fun q H4 _ e4 h4 => ?_
    exact k q H4 ws rs (e3.trans e4) h4 (hT.ei e4.ei) hR fun x hx2 => hx x (by simpa using hx2)

end
end Eo
namespace Eo
open PySem PyProof.Rows L2 L2.DX
/-! words of the walk: wp goes on where nothing is open; hl looks an object up; ex: what stood stands -/
local macro_rules | `(tactic| walk_at "hl") => `(tactic| first | assumption | exact PlT.sq (by assumption) | (refine stT ?_; walk_at "hl") | (refine stL ?_; walk_at "hl") | (refine Ex.at (by assumption) ?_; walk_at "hl") | (refine Mu.tup (by assumption) ?_; walk_at "hl") | (refine Ex.sqT (by assumption) ?_; walk_at "hl") | (refine Ex.sqL (by assumption) ?_; walk_at "hl") | (refine Ex.plT (by assumption) ?_; walk_at "hl") | (refine Mu.plT (by assumption) ?_; walk_at "hl"))
local macro_rules | `(tactic| walk_at "ex") => `(tactic| first | assumption | exact Ex.refl _ | (refine Ex.trans ?_ (by assumption); walk_at "ex") | (refine Ex.mu ?_ (by assumption) (by first | assumption | walk_at "fr"); walk_at "ex"))
local macro_rules | `(tactic| walk_at "fr") => `(tactic| first | assumption | (refine Ex.free (by assumption) ?_; walk_at "fr"))
local macro_rules | `(tactic| walk_at "rf") => `(tactic| with_unfolding_all rfl)
local macro_rules | `(tactic| walk_at "wp") => `(tactic| repeat (with_reducible first
  | refine q_seq ?_ | refine q_asg ?_ | refine q_ret ?_ | refine q_drop ?_ | refine q_if ?_ | refine q_next ?_ | refine q_par ?_ | refine q_par3 ?_ | refine q_retN ?_ | refine q_cont ?_ | refine q_brk ?_
  | refine e_var (by with_unfolding_all rfl) ?_ | refine e_c ?_ | refine e_op ?_ | refine e_cons ?_ | refine e_nil ?_ | refine e_test ?_ | refine e_B ?_ | refine e_yes ?_ | refine e_cb ?_ | refine e_call ?_ | refine e_then ?_ | refine e_tup ?_ | refine e_lst ?_
  | refine x_bl ?_ | refine i_T ?_ | refine i_F ?_ | refine x_two ?_ | refine x_three ?_
  | refine r_I0 ?_ | refine r_add ?_ | refine r_ip ?_ | refine g_nm ?_ | refine r_eqI ?_ | refine r_neI ?_ | refine r_eq (by with_unfolding_all rfl) ?_ | refine r_ne (by with_unfolding_all rfl) ?_
  | refine e_not ?_ | refine e_and ?_ | refine e_or ?_ | refine e_andV ?_ | refine e_orV ?_ | refine e_notV ?_ | refine e_ifx ?_ | refine e_idxF ?_ | refine e_idxI ?_ | refine e_sl ?_ | refine e_part ?_ | refine e_nopart ?_ | refine f_revA ?_ | refine e_lenSet ?_ | refine l_dcT ?_ | refine e_sadd ?_ | refine q_asgS ?_ | refine q_augS ?_ | refine e_tupRg ?_ | refine e_lstRg ?_ | refine e_rg1 ?_ | refine e_rg2 ?_ | refine e_dget ?_ | refine e_din ?_ | refine e_dnotin ?_ | refine e_dget2 ?_ | refine q_dput ?_ | refine e_un ?_ | refine e_chain ?_ | refine e_bm ?_ | refine e_bm0 ?_ | refine e_fld ?_ | refine q_asgT ?_
  | refine l_any ?_ | refine l_tup ?_ | refine l_list ?_ | refine l_rng1 ?_ | refine l_rng2 ?_ | refine l_str ?_ | refine l_enumL ?_ | refine l_enumT ?_ | refine l_zip ?_ | refine l_zipM ?_
  | refine f_tup ?_ | refine f_list ?_ | refine f_rng1 ?_ | refine f_enumL ?_ | refine f_enumT ?_))
local macro_rules | `(tactic| walk_at "sz") => `(tactic| first | decide | (refine small ?_; simp; done) | (refine small ?_; simp; omega) | (refine smallL ?_; simp; done) | (refine smallL ?_; simp; omega) | (simp; done) | (simp; omega))
section
variable {P : Program} {w : World} {K : PySem.W.Frag} {mg : Str → Option Value} {base : Heap} {C : Addr} {A : Nat → Addr} {FD : Nat → FuncData}
def sp_turn_round : Sp := fun vs H Q _ => ∃ (a : Addr) (n : Nat) (f : List Nat), vs = [.ref a] ∧ H a = some (.tup (encI f)) ∧ Pm n f ∧ n ≤ 100 ∧ ∀ R H', Ex H H' → Rnd n f R → Q (.int (R : Nat)) H'
theorem sum_le_flat {rs : List (List Nat)} {i : Nat} : ((rs.take i).map List.length).sum ≤ rs.flatten.length := by
  rw [List.length_flatten]
  induction rs generalizing i with
  | nil => simp
  | cons r rs ih =>
    cases i with
    | zero => simp
    | succ i =>
      simp only [List.take_succ_cons, List.map_cons, List.sum_cons]
      have := ih (i := i)
      omega
theorem ok_turn_round (T : Tx K mg C A FD) : (FnOk P w K mg base CX0 3 (A 23) (FD 23) ["turn"] sp_turn_round) := by
  refine T.d_turn_round.F.ok sc_turn_round (fun vs H Q E h => by obtain ⟨a, n, f, rfl, ha, hf, hn, k⟩ := h; rfl) (fun cdv A0 outer s H vs Q E hr h => ?_)
  obtain ⟨a, n, f, rfl, ha, hf, hn, k⟩ := h
  have hu := hu_of hr
  have hu64 := hr.units
  have hu2 : _ + 65 < cLine := (fun {A : Around} {k} (hr : Room k A) => (by have := hr.un; omega : A.units + 65 < cLine)) hr
  refine ⟨_, (pss_cons (ps_set (i := 1) sc_turn_round.nd rfl (.inl rfl) pe_int)
    (pss_cons (ps_for PassesOwn.never rfl (kpi_tup K (pe_call (ok_turn_rings T) (hr.mono (by decide)) (by rfl) T.d_turn_rings.g T.d_turn_rings.F.kp T.d_turn_rings.b .nil pass0 (pa_cons (pv 0) pa_nil))) (pg_name (i := 2) sc_turn_round.nd rfl (by first | exact .inl rfl | exact .inr rfl)) (pss_one (ps_set (i := 1) sc_turn_round.nd rfl (.inl rfl) (pe_call (ok_common_multiple T) (hr.mono (by decide)) (by rfl) T.d_common_multiple.g T.d_common_multiple.F.kp T.d_common_multiple.b .nil pass0 (pa_cons (pv 1) (pa_cons (pe_callB (kcall_len K) (by rfl) T.z_len (by decide +kernel) (pa_cons (pv 2) pa_nil)) pa_nil))))))
    (pss_one (ps_ret (pv 1))))), ?_⟩
  clear hu hu64 hu2
  walk_at "wp"
  refine ⟨a, n, f, rfl, ha, hf, hn, fun p H1 ws rs e1 h1 hT hR hall => ?_⟩
  refine ⟨p, rfl, ⟨_, stT h1⟩, fr_W walk_tup (fun i σ H2 => Ex H1 H2 ∧ ∃ R x, σ = [some (.ref a), some (.int (R : Nat)), x] ∧ 0 < R ∧ R ≤ 2 ^ ((rs.take i).map List.length).sum ∧ ∀ r ∈ rs.take i, r.length ∣ R)
    ⟨Ex.refl _, 1, _, rfl, by omega, by simp, fun r h => by simp at h⟩ (fun i σ H2 hi h => h.1.sqT (stT h1)) (fun i x σ H2 H3 hi h y => ?_) (fun σ H2 h => ?_)⟩
  · obtain ⟨e2, R, x0, rfl, hp, hle, hd⟩ := h
    obtain ⟨rfl, hx⟩ := y
    obtain ⟨r, q, hr, rfl, hq⟩ := (hT.ei e2.ei).get hx
    walk_at "wp"
    refine r_lenT (stT hq) ?_
    rw [encI_len]
    walk_at "wp"
    have hmem := List.mem_of_getElem? hr
    have hrp := (hR.all r hmem).pos
    have hi3 : i < rs.length := (List.getElem?_eq_some_iff.mp hr).1
    have ht : rs.take (i + 1) = rs.take i ++ [r] := by
      rw [List.take_succ, hr]
      rfl
    have hl : r.length ≤ n := Nat.le_trans (List.Sublist.length_le (List.sublist_flatten_of_mem hmem)) (nodup_lt_len hR.nd hR.lt)
    refine ⟨R, r.length, rfl, hp, hrp, by omega, ?_⟩
    walk_at "wp"
    refine ⟨e2, _, _, rfl, Nat.lcm_pos hp hrp, ?_, fun s hs => ?_⟩
    · rw [ht]
      simp only [List.map_append, List.sum_append, List.map_cons, List.map_nil, List.sum_cons, List.sum_nil, Nat.add_zero]
      exact pow_bound hle (Nat.le_refl _)
    · rw [ht] at hs
      rcases List.mem_append.mp hs with hs | hs
      · exact Nat.dvd_trans (hd s hs) (Nat.dvd_lcm_left _ _)
      · rw [List.mem_singleton] at hs
        subst hs
        exact Nat.dvd_lcm_right _ _
  · obtain ⟨e2, R, x0, rfl, hp, hle, hd⟩ := h
    walk_at "wp"
    have hall2 : rs.take ws.length = rs := by rw [hT.1, List.take_length]
    rw [hall2] at hd
    refine k R H2 (e1.trans e2) ⟨hp, Nat.le_trans hle (Nat.pow_le_pow_right (by omega) (Nat.le_trans sum_le_flat (nodup_lt_len hR.nd hR.lt))), rnd_of hf hR hall hd⟩
def sp_turn_fault (C0 : Addr) : Sp := fun vs H Q _ => ∃ (a : Addr) (n : Nat) (ds : Ds), vs = [.ref a] ∧ Mac C0 H a n ds ∧ Good n ds ∧ ∀ H', Ex H H' → Q .non H'
theorem ok_turn_fault (T : Tx K mg C A FD) : (FnOk P w K mg base CX0 1 (A 24) (FD 24) ["machine"] (sp_turn_fault C)) := by
  refine T.d_turn_fault.F.ok sc_turn_fault (fun vs H Q E h => by obtain ⟨a, n, ds, rfl, hm, hg, k⟩ := h; rfl) (fun cdv A0 outer s H vs Q E hr h => ?_)
  obtain ⟨a, n, ds, rfl, hm, hg, k⟩ := h
  have hu := hu_of hr
  have hu64 := hr.units
  have hu2 : _ + 65 < cLine := (fun {A : Around} {k} (hr : Room k A) => (by have := hr.un; omega : A.units + 65 < cLine)) hr
  refine ⟨_, (pss_cons (ps_for PassesOwn.never rfl (kpi_enumT K (by rfl) T.z_enumerate (pa_cons (kpe_fld K (pv 0)) pa_nil)) (kpg_tup K (n := 2) (by rfl) (pgs_cons (pg_name (i := 1) sc_turn_fault.nd rfl (by first | exact .inl rfl | exact .inr rfl)) (pgs_cons (kpg_tup K (n := 2) (by rfl) (pgs_cons (pg_name (i := 2) sc_turn_fault.nd rfl (by first | exact .inl rfl | exact .inr rfl)) (pgs_cons (pg_name (i := 3) sc_turn_fault.nd rfl (by first | exact .inl rfl | exact .inr rfl)) pgs_nil))) pgs_nil))) (pss_one (ps_if (pt_cmpR op_lt (klenSetT K (by rfl) T.z_len (by rfl) T.z_set (pv 3)) (kpe_fld K (pv 0)) (nomark _)) (pss_one (ps_ret (pv 1))) pss_nil)))
    (pss_one (ps_ret pe_non))), ?_⟩
  clear hu hu64 hu2
  walk_at "wp"
  obtain ⟨dx, d, nm, vs, hm1, hm2, hm3, hm4⟩ := hm.ex
  refine ⟨a, C, dx, _, _, rfl, hm1, T.cl, T.nD, rfl, ?_⟩
  walk_at "wp"
  refine ⟨d, vs, rfl, hm2.sq, fr_W walk_enumT (fun i σ H1 => Ex H H1 ∧ ∃ x y z, σ = [some (.ref a), x, y, z]) ⟨Ex.refl _, _, _, _, rfl⟩ (fun i σ H1 hi h => (h.1.plT hm2).sq) (fun i x σ H1 H2 hi h y => ?_) (fun σ H1 h => ?_)⟩
  · obtain ⟨e1, x0, y0, z0, rfl⟩ := h
    obtain ⟨t, u, v, rfl, hu, hv, ht, e2⟩ := yp_get y
    obtain ⟨x, f, p, q, hd, rfl, hp, hq⟩ := (hm3.ei (e1.trans e2).ei).get hv
    have hf : Pm n f := hg.perm _ (List.mem_of_getElem? hd)
    cases hu
    refine g_two_in (stT ht) (stT hp) ?_
    walk_at "wp"
    refine ⟨q, f.map fun (x : Nat) => (x : Int), rfl, ?_, ?_, ?_, ?_⟩
    · rw [List.map_map]
      exact stT hq
    · exact nodup_map hf.nd fun a _ b _ e => by omega
    · rw [List.length_map, hf.len]
      have := hg.few
      omega
    walk_at "wp"
    refine ⟨a, C, dx, _, _, rfl, e2 _ _ (e1 _ _ hm1), T.cl, T.nS, rfl, ?_⟩
    walk_at "wp"
    rw [List.length_map, hf.len]
    refine i_dF (by omega) ?_
    walk_at "wp"
    exact ⟨e1.trans e2, _, _, _, rfl⟩
  · walk_at "wp"
    exact k H1 h.1
def sp_need_permuting (C0 : Addr) : Sp := sp_turn_fault C0
theorem ok_need_permuting (T : Tx K mg C A FD) : (FnOk P w K mg base CX0 2 (A 25) (FD 25) ["machine"] (sp_turn_fault C)) := by
  refine T.d_need_permuting.F.ok sc_need_permuting (fun vs H Q E h => by obtain ⟨a, n, ds, rfl, hm, hg, k⟩ := h; rfl) (fun cdv A0 outer s H vs Q E hr h => ?_)
  obtain ⟨a, n, ds, rfl, hm, hg, k⟩ := h
  have hu := hu_of hr
  have hu64 := hr.units
  have hu2 : _ + 65 < cLine := (fun {A : Around} {k} (hr : Room k A) => (by have := hr.un; omega : A.units + 65 < cLine)) hr
  refine ⟨_, (pss_cons (ps_set (i := 1) sc_need_permuting.nd rfl (.inl rfl) (pe_call (ok_turn_fault T) (hr.mono (by decide)) (by rfl) T.d_turn_fault.g T.d_turn_fault.F.kp T.d_turn_fault.b .nil pass0 (pa_cons (pv 0) pa_nil)))
    (pss_one (ps_if (pt_cmpR op_notN (pv 1) pe_non (nomark _)) (pss_one ps_never) pss_nil))), ?_⟩
  clear hu hu64 hu2
  walk_at "wp"
  refine ⟨a, n, ds, rfl, hm, hg, fun H1 e => ?_⟩
  walk_at "wp"
  refine ⟨rfl, ?_⟩
  walk_at "wp"
  exact k H1 e
/-- the rounds by names -/
def RndAt (H : Hp) (d : Addr) (n : Nat) (ds : Ds) : Prop := ∃ kvs : List (Key × V), H d = some (.dK kvs) ∧ ∀ x f, (x, f) ∈ ds → ∃ R : Nat, valV kvs (Sum.inr x) = some (.int (R : Nat)) ∧ Rnd n f R
theorem RndAt.ex {H H' : Hp} {d : Addr} {n : Nat} {ds : Ds} (h : RndAt H d n ds) (e : Ex H H') : RndAt H' d n ds := let ⟨kvs, h1, h2⟩ := h; ⟨kvs, e _ _ h1, h2⟩
def sp_named_rounds (C0 : Addr) : Sp := fun vs H Q _ => ∃ (a : Addr) (n : Nat) (ds : Ds), vs = [.ref a] ∧ Mac C0 H a n ds ∧ Good n ds ∧ ∀ p H', Ex H H' → RndAt H' p n ds → Q (.ref p) H'
theorem ok_named_rounds (T : Tx K mg C A FD) : (FnOk P w K mg base CX0 4 (A 27) (FD 27) ["machine"] (sp_named_rounds C)) := by
  refine T.d_named_rounds.F.ok sc_named_rounds (fun vs H Q E h => by obtain ⟨a, n, ds, rfl, hm, hg, k⟩ := h; rfl) (fun cdv A0 outer s H vs Q E hr h => ?_)
  obtain ⟨a, n, ds, rfl, hm, hg, k⟩ := h
  have hu := hu_of hr
  have hu64 := hr.units
  have hu2 : _ + 65 < cLine := (fun {A : Around} {k} (hr : Room k A) => (by have := hr.un; omega : A.units + 65 < cLine)) hr
  refine ⟨_, (pss_one (ps_ret (pe_dc rfl sc_named_rounds.nd (kpi_tup K (kpe_fld K (pv 0))) (blkOk_by (own := [("name", 1), ("images", 2)]) (N := N_named_rounds) (sc := defScope s_named_rounds) (by decide +kernel)) (fun _ _ _ _ _ => (kpg_tup K (n := 2) (by rfl) (pgs_cons (pg_name (i := 1) sc_named_rounds.nd rfl (by first | exact .inl rfl | exact .inr rfl)) (pgs_cons (pg_name (i := 2) sc_named_rounds.nd rfl (by first | exact .inl rfl | exact .inr rfl)) pgs_nil)))) (fun _ _ _ _ _ => pts_nil) (fun _ _ _ _ _ => (pv 1)) (fun _ _ _ _ _ => (pe_call (ok_turn_round T) (hr.mono (by decide)) (by rfl) T.d_turn_round.g T.d_turn_round.F.kp T.d_turn_round.b .nil pass0 (pa_cons (pv 2) pa_nil)))))), ?_⟩
  clear hu hu64 hu2
  walk_at "wp"
  obtain ⟨dx, d, nm, vs, hm1, hm2, hm3, hm4⟩ := hm.ex
  refine ⟨a, C, dx, _, _, rfl, hm1, T.cl, T.nD, rfl, ?_⟩
  refine ⟨d, rfl, ⟨_, hm2.sq⟩, dc_I (fun i kvs _ => ∀ j x f, j < i → ds[j]? = some (x, f) → ∃ R : Nat, valV kvs (Sum.inr x) = some (.int (R : Nat)) ∧ Rnd n f R) hm2.sq (by rw [hm3.1]; have := hg.eight; omega) (fun H1 _ j x f hj => by omega) (fun _ _ _ _ _ h => h) (fun i kvs x H2 hx e hI R hR => ?_) fun D kvs H1 hD e h1 hI => ?_⟩
  · obtain ⟨x, f, p, q, hd, rfl, hp, hq⟩ := (hm3.ei e.ei).get hx
    have hf : Pm n f := hg.perm _ (List.mem_of_getElem? hd)
    refine g_two (stT hp) ?_
    refine ⟨rfl, ?_⟩
    walk_at "wp"
    refine ⟨q, n, f, rfl, hq, hf, by have := hg.few; omega, fun r H3 e3 hr => ?_⟩
    refine hR (Sum.inr x) _ H3 e3 fun j y g hj hy => ?_
    rw [valV_put]
    by_cases hji : j = i
    · subst hji
      rw [hy] at hd
      cases hd
      exact ⟨r, if_pos rfl, hr⟩
    · have hne : y ≠ x := fun e2 => by
        subst e2
        have h1 := (List.getElem?_eq_some_iff.mp hy)
        have h2 := (List.getElem?_eq_some_iff.mp hd)
        refine hji (nd_inj hg.apart (by simpa using h1.1) (by simpa using h2.1) ?_)
        simp only [List.getElem_map]
        rw [h1.2, h2.2]
      obtain ⟨R', h1, h2⟩ := hI j y g (by omega) hy
      exact ⟨R', by rw [if_neg (fun e2 => hne (Sum.inr.inj e2))]; exact h1, h2⟩
  · refine k D H1 e ⟨kvs, h1, fun x f hm => ?_⟩
    obtain ⟨j, hj, e2⟩ := List.getElem_of_mem hm
    exact hI j x f (by rw [hm3.1]; exact hj) (by rw [List.getElem?_eq_getElem hj, e2])

end
end Eo
namespace Eo
open PySem PyProof.Rows L2 L2.DX
/-! words of the walk: wp goes on where nothing is open; hl looks an object up; ex: what stood stands -/
local macro_rules | `(tactic| walk_at "hl") => `(tactic| first | assumption | exact PlT.sq (by assumption) | (refine stT ?_; walk_at "hl") | (refine stL ?_; walk_at "hl") | (refine Ex.at (by assumption) ?_; walk_at "hl") | (refine Mu.tup (by assumption) ?_; walk_at "hl") | (refine Ex.sqT (by assumption) ?_; walk_at "hl") | (refine Ex.sqL (by assumption) ?_; walk_at "hl") | (refine Ex.plT (by assumption) ?_; walk_at "hl") | (refine Mu.plT (by assumption) ?_; walk_at "hl"))
local macro_rules | `(tactic| walk_at "ex") => `(tactic| first | assumption | exact Ex.refl _ | (refine Ex.trans ?_ (by assumption); walk_at "ex") | (refine Ex.mu ?_ (by assumption) (by first | assumption | walk_at "fr"); walk_at "ex"))
local macro_rules | `(tactic| walk_at "fr") => `(tactic| first | assumption | (refine Ex.free (by assumption) ?_; walk_at "fr"))
local macro_rules | `(tactic| walk_at "rf") => `(tactic| with_unfolding_all rfl)
local macro_rules | `(tactic| walk_at "wp") => `(tactic| repeat (with_reducible first
  | refine q_seq ?_ | refine q_asg ?_ | refine q_ret ?_ | refine q_drop ?_ | refine q_if ?_ | refine q_next ?_ | refine q_par ?_ | refine q_par3 ?_ | refine q_retN ?_ | refine q_cont ?_ | refine q_brk ?_
  | refine e_var (by with_unfolding_all rfl) ?_ | refine e_c ?_ | refine e_op ?_ | refine e_cons ?_ | refine e_nil ?_ | refine e_test ?_ | refine e_B ?_ | refine e_yes ?_ | refine e_cb ?_ | refine e_call ?_ | refine e_then ?_ | refine e_tup ?_ | refine e_lst ?_
  | refine x_bl ?_ | refine i_T ?_ | refine i_F ?_ | refine x_two ?_ | refine x_three ?_
  | refine r_I0 ?_ | refine r_add ?_ | refine r_ip ?_ | refine g_nm ?_ | refine r_eqI ?_ | refine r_neI ?_ | refine r_eq (by with_unfolding_all rfl) ?_ | refine r_ne (by with_unfolding_all rfl) ?_
  | refine e_not ?_ | refine e_and ?_ | refine e_or ?_ | refine e_andV ?_ | refine e_orV ?_ | refine e_notV ?_ | refine e_ifx ?_ | refine e_idxF ?_ | refine e_idxI ?_ | refine e_sl ?_ | refine e_part ?_ | refine e_nopart ?_ | refine f_revA ?_ | refine e_lenSet ?_ | refine l_dcT ?_ | refine e_sadd ?_ | refine q_asgS ?_ | refine q_augS ?_ | refine e_tupRg ?_ | refine e_lstRg ?_ | refine e_rg1 ?_ | refine e_rg2 ?_ | refine e_dget ?_ | refine e_din ?_ | refine e_dnotin ?_ | refine e_dget2 ?_ | refine q_dput ?_ | refine e_un ?_ | refine e_chain ?_ | refine e_bm ?_ | refine e_bm0 ?_ | refine e_fld ?_ | refine q_asgT ?_
  | refine l_any ?_ | refine l_tup ?_ | refine l_list ?_ | refine l_rng1 ?_ | refine l_rng2 ?_ | refine l_str ?_ | refine l_enumL ?_ | refine l_enumT ?_ | refine l_zip ?_ | refine l_zipM ?_
  | refine f_tup ?_ | refine f_list ?_ | refine f_rng1 ?_ | refine f_enumL ?_ | refine f_enumT ?_))
local macro_rules | `(tactic| walk_at "sz") => `(tactic| first | decide | (refine small ?_; simp; done) | (refine small ?_; simp; omega) | (refine smallL ?_; simp; done) | (refine smallL ?_; simp; omega) | (simp; done) | (simp; omega))
section
variable {P : Program} {w : World} {K : PySem.W.Frag} {mg : Str → Option Value} {base : Heap} {C : Addr} {A : Nat → Addr} {FD : Nat → FuncData}
def sp_row_depth : Sp := fun vs H Q _ => ∃ (a : Addr) (xs : List Str), vs = [.ref a] ∧ H a = some (.tup (xs.map V.str)) ∧ xs.length ≤ 1000 ∧ ∀ H', Ex H H' → Q (.int 0) H'
theorem ok_row_depth (T : Tx K mg C A FD) : (FnOk P w K mg base CX0 1 (A 7) (FD 7) ["row"] sp_row_depth) := by
  refine T.d_row_depth.F.ok sc_row_depth (fun vs H Q E h => by obtain ⟨a, xs, rfl, ha, hl, k⟩ := h; rfl) (fun cdv A0 outer s H vs Q E hr h => ?_)
  obtain ⟨a, xs, rfl, ha, hl, k⟩ := h
  have hu := hu_of hr
  have hu64 := hr.units
  have hu2 : _ + 65 < cLine := (fun {A : Around} {k} (hr : Room k A) => (by have := hr.un; omega : A.units + 65 < cLine)) hr
  refine ⟨_, (pss_one (ps_ret (pe_callB (kcr_max K) (by rfl) T.z_max (by decide +kernel) (pa_cons (pe_op op_cat (pe_lst (pa_cons pe_int pa_nil)) (pe_lc rfl sc_row_depth.nd (kpi_tup K (pv 0)) (blkOk_by (own := [("part", 1)]) (N := N_row_depth) (sc := defScope s_row_depth) (by decide +kernel)) (fun _ _ _ _ _ => (pg_name (i := 1) sc_row_depth.nd rfl (by first | exact .inl rfl | exact .inr rfl))) (fun _ _ _ _ _ => (pts_one (pt_val (pe_callB (kcall_isi K) (by rfl) T.z_isinstance (by decide +kernel) (pa_cons (pv 1) (pa_cons (pe_bltn (v := .ty "tuple") (by rfl) T.z_tuple (by decide +kernel) rfl) pa_nil)))))) (fun _ _ _ _ _ => (pe_op op_add (pe_call (no_ok ((A 7)) (FD 7) ["row"]) (hr.mono (by decide)) (by rfl) T.d_row_depth.g T.d_row_depth.F.kp T.d_row_depth.b .nil pass0 (pa_cons (pe_ix (kix_tup K) (pv 1) pe_int (fun _ _ => rfl)) pa_nil)) pe_int)))) pa_nil)))), ?_⟩
  clear hu hu64 hu2
  walk_at "wp"
  refine al (by walk_at "sz") fun p H1 hp e1 h1 => ?_
  walk_at "wp"
  refine ⟨a, rfl, ⟨_, stT (e1 _ _ ha)⟩, lc_I (fun i acc _ => acc = []) (wk_tup (stT (e1 _ _ ha))) (by rw [List.length_map]; omega) (fun _ _ => rfl) (fun _ _ _ _ _ h => h) (fun i acc x H2 H3 hi e hI y P N _ hN => ?_) fun D acc H2 hD e hDl _ hI => ?_⟩
  · obtain ⟨rfl, hx⟩ := y
    rw [List.getElem?_map, Option.map_eq_some_iff] at hx
    obtain ⟨z, hz, rfl⟩ := hx
    refine ⟨rfl, ?_⟩
    walk_at "wp"
    refine r_isi (.base (.str _)) (r := false) (by decide +kernel) ?_
    walk_at "wp"
    exact hN _ (Ex.refl _) hI
  · subst hI
    refine r_cat (e _ _ h1) hDl (by decide) fun q H3 hq e3 h3 => ?_
    walk_at "wp"
    refine ⟨q, [0], rfl, stL h3, by decide, fun m hm _ => ?_⟩
    rw [List.mem_singleton] at hm
    subst hm
    exact k H3 ((e1.trans e).trans e3)
def sp_backward_parts : Sp := fun vs H Q _ => ∃ (a b : Addr) (n : Nat) (ds : Ds) (x : Str) (f : List Nat), vs = [.ref a, .ref b] ∧ H a = some (.tup [.str x]) ∧ RndAt H b n ds ∧ (x, f) ∈ ds ∧ ∀ p q r R H', Ex H H' → Rnd n f R → H' p = some (.tup [.ref q]) → H' q = some (.tup [.ref r, .int ((R - 1 : Nat) : Int)]) → H' r = some (.tup [.str x]) → Q (.ref p) H'
theorem ok_backward_parts (T : Tx K mg C A FD) : (FnOk P w K mg base CX0 1 (A 26) (FD 26) ["row", "rounds"] sp_backward_parts) := by
  refine T.d_backward_parts.F.ok sc_backward_parts (fun vs H Q E h => by obtain ⟨a, b, n, ds, x, f, rfl, ha, hb, hm, k⟩ := h; rfl) (fun cdv A0 outer s H vs Q E hr h => ?_)
  obtain ⟨a, b, n, ds, x, f, rfl, ha, hb, hm, k⟩ := h
  have hu := hu_of hr
  have hu64 := hr.units
  have hu2 : _ + 65 < cLine := (fun {A : Around} {k} (hr : Room k A) => (by have := hr.un; omega : A.units + 65 < cLine)) hr
  refine ⟨_, (pss_cons (ps_set (i := 2) sc_backward_parts.nd rfl (.inl rfl) (pe_lst pa_nil))
    (pss_cons (ps_for PassesOwn.never rfl (kpi_revA K (by rfl) T.z_reversed (pv 0)) (pg_name (i := 3) sc_backward_parts.nd rfl (by first | exact .inl rfl | exact .inr rfl)) (pss_one (ps_if (pt_val (pe_callB (kcall_isi K) (by rfl) T.z_isinstance (by decide +kernel) (pa_cons (pv 3) (pa_cons (pe_bltn (v := .ty "tuple") (by rfl) T.z_tuple (by decide +kernel) rfl) pa_nil)))) (pss_one (ps_expr (kpe_bm K PySem.F.plainAttrs_list PySem.F.slot_list_append PySem.F.type_list_append mt_append (pv 2) (pa_cons (pe_tup (pa_cons (pe_call (no_ok (A 26) (FD 26) ["row", "rounds"]) (hr.mono (by decide)) (by rfl) T.d_backward_parts.g T.d_backward_parts.F.kp T.d_backward_parts.b .nil pass0 (pa_cons (pe_ix (kix_tup K) (pv 3) pe_int (fun _ _ => rfl)) (pa_cons (pv 1) pa_nil))) (pa_cons (pe_ix (kix_tup K) (pv 3) pe_int (fun _ _ => rfl)) pa_nil))) pa_nil)))) (pss_one (ps_expr (kpe_bm K PySem.F.plainAttrs_list PySem.F.slot_list_append PySem.F.type_list_append mt_append (pv 2) (pa_cons (pe_tup (pa_cons (pe_tup (pa_cons (pv 3) pa_nil)) (pa_cons (pe_op op_sub (pe_dget hu (pv 1) (pv 3) (fun _ _ => rfl)) pe_int) pa_nil))) pa_nil)))))))
    (pss_one (ps_ret (kpe_tupleOf K (by rfl) T.z_tuple (pv 2)))))), ?_⟩
  clear hu hu64 hu2
  walk_at "wp"
  refine al (by walk_at "sz") fun l H1 hl e1 h1 => ?_
  walk_at "wp"
  refine ⟨a, _, rfl, .inr ⟨stT (e1 _ _ ha), RT.for_ItvT (fun i σ H2 => Ex H H2 ∧ ∃ y, σ = [some (.ref a), some (.ref b), some (.ref l), y] ∧ ((i = 0 ∧ H2 l = some (.lst [])) ∨ (i = 1 ∧ ∃ q r R, Rnd n f R ∧ H2 l = some (.lst [.ref q]) ∧ H2 q = some (.tup [.ref r, .int ((R - 1 : Nat) : Int)]) ∧ H2 r = some (.tup [.str x]))))
    ⟨e1, _, rfl, .inl ⟨rfl, h1⟩⟩ (fun i σ H2 h => h.1.sqT (stT ha)) (fun i x' σ H2 hi hx h => ?_) (fun σ H2 h => ?_)⟩⟩
  · have hi0 : i = 0 := by simpa using hi
    subst hi0
    have hx2 : x' = .str x := by simpa using hx.symm
    subst hx2
    obtain ⟨e2, y, rfl, h | h⟩ := h
    · obtain ⟨_, h2⟩ := h
      walk_at "wp"
      refine r_isi (.base (.str _)) (r := false) (by decide +kernel) ?_
      walk_at "wp"
      refine ty_list (stL h2) ?_
      walk_at "wp"
      refine al (by walk_at "sz") fun r H3 hr e3 h3 => ?_
      walk_at "wp"
      obtain ⟨kvs, hk1, hk2⟩ := (hb.ex e2).ex e3
      obtain ⟨R, hR1, hR2⟩ := hk2 x f hm
      refine ⟨_, _, rfl, dget_S hk1 hR1, ?_⟩
      walk_at "wp"
      refine al (by walk_at "sz") fun q H4 hq e4 h4 => ?_
      walk_at "wp"
      refine r_app (e4 _ _ (e3 _ _ h2)) (by decide) fun H5 m5 h5 => ?_
      have hRe : ((R : Nat) : Int) - 1 = ((R - 1 : Nat) : Int) := by have := hR2.pos; omega
      refine ⟨((e2.trans e3).trans e4).mu m5 hl, _, rfl, .inr ⟨rfl, q, r, R, hR2, h5, by rw [← hRe]; exact m5.tup h4, m5.tup (e4 _ _ h3)⟩⟩
    · obtain ⟨h, _⟩ := h
      omega
  · obtain ⟨e2, y, rfl, h | h⟩ := h
    · obtain ⟨h, _⟩ := h
      simp at h
    · obtain ⟨_, q, r, R, hR, h2, h3, h4⟩ := h
      walk_at "wp"
      refine r_tupL (stL h2) fun p H3 _ e3 h5 => ?_
      exact k p q r R H3 (e2.trans e3) hR h5 (e3 _ _ h3) (e3 _ _ h4)
def sp_back_row (C0 : Addr) : Sp := fun vs H Q _ => ∃ (a b : Addr) (n : Nat) (ds : Ds) (x : Str) (f : List Nat), vs = [.ref a, .ref b] ∧ Mac C0 H a n ds ∧ Good n ds ∧ H b = some (.tup [.str x]) ∧ (x, f) ∈ ds ∧ ∀ p q r R H', Ex H H' → Rnd n f R → H' p = some (.tup [.ref q]) → H' q = some (.tup [.ref r, .int ((R - 1 : Nat) : Int)]) → H' r = some (.tup [.str x]) → Q (.ref p) H'
abbrev nms (ds : Ds) : List Str := ds.map (·.1)
theorem names_map (ds : Ds) : (ds.map fun q => V.str q.1) = (ds.map (·.1)).map V.str := by rw [List.map_map]; rfl
theorem mem_names {ds : Ds} {x : Str} {f : List Nat} (h : (x, f) ∈ ds) : x ∈ ds.map (·.1) := List.mem_map.mpr ⟨_, h, rfl⟩
theorem ok_back_row (T : Tx K mg C A FD) : (FnOk P w K mg base CX0 7 (A 28) (FD 28) ["machine", "row"] (sp_back_row C)) := by
  refine T.d_back_row.F.ok sc_back_row (fun vs H Q E h => by obtain ⟨a, b, n, ds, x, f, rfl, hm, hg, hb, hx, k⟩ := h; rfl) (fun cdv A0 outer s H vs Q E hr h => ?_)
  obtain ⟨a, b, n, ds, x, f, rfl, hm, hg, hb, hx, k⟩ := h
  obtain ⟨_, g_DEEPEST⟩ := T.g_DEEPEST
  have hu := hu_of hr
  have hu64 := hr.units
  have hu2 : _ + 65 < cLine := (fun {A : Around} {k} (hr : Room k A) => (by have := hr.un; omega : A.units + 65 < cLine)) hr
  refine ⟨_, (pss_cons (ps_expr (pe_call (ok_need_permuting T) (hr.mono (by decide)) (by rfl) T.d_need_permuting.g T.d_need_permuting.F.kp T.d_need_permuting.b .nil pass0 (pa_cons (pv 0) pa_nil)))
    (pss_cons (ps_expr (pe_call (ok_need_names T) (hr.mono (by decide)) (by rfl) T.d_need_names.g T.d_need_names.F.kp T.d_need_names.b .nil pass0 (pa_cons (pv 1) (pa_cons (kpe_fld K (pv 0)) pa_nil))))
    (pss_cons (ps_if (pt_cmpR op_ge (pe_call (ok_row_depth T) (hr.mono (by decide)) (by rfl) T.d_row_depth.g T.d_row_depth.F.kp T.d_row_depth.b .nil pass0 (pa_cons (pv 1) pa_nil)) (pe_glob (v := .int 8) (by rfl) g_DEEPEST ⟨_, rfl⟩) (nomark _)) (pss_one ps_never) pss_nil)
    (pss_one (ps_ret (pe_call (ok_backward_parts T) (hr.mono (by decide)) (by rfl) T.d_backward_parts.g T.d_backward_parts.F.kp T.d_backward_parts.b .nil pass0 (pa_cons (pv 1) (pa_cons (pe_call (ok_named_rounds T) (hr.mono (by decide)) (by rfl) T.d_named_rounds.g T.d_named_rounds.F.kp T.d_named_rounds.b .nil pass0 (pa_cons (pv 0) pa_nil)) pa_nil)))))))), ?_⟩
  clear hu hu64 hu2
  walk_at "wp"
  refine ⟨a, n, ds, rfl, hm, hg, fun H1 e1 => ?_⟩
  walk_at "wp"
  obtain ⟨dx, d, nm, vs, hm1, hm2, hm3, hm4⟩ := (hm.ex' e1).ex
  refine ⟨a, C, dx, _, _, rfl, hm1, T.cl, T.nN, rfl, ?_⟩
  walk_at "wp"
  rw [names_map] at hm4
  refine ⟨b, nm, _, _, rfl, Rw.nm1 (e1 _ _ hb), hm4, ⟨mem_names hx, trivial⟩, hg.names, by show 0 < 4; omega, fun H2 e2 => ?_⟩
  walk_at "wp"
  refine ⟨b, [x], rfl, e2 _ _ (e1 _ _ hb), by simp, fun H3 e3 => ?_⟩
  walk_at "wp"
  refine i_dF (by decide) ?_
  walk_at "wp"
  have e123 := (e1.trans e2).trans e3
  refine ⟨a, n, ds, rfl, hm.ex' e123, hg, fun p H4 e4 h4 => ?_⟩
  walk_at "wp"
  exact ⟨b, p, n, ds, x, f, rfl, e4 _ _ (e123 _ _ hb), h4, hx, fun p q r R H5 e5 => k p q r R H5 ((e123.trans e4).trans e5)⟩
def mixR (x y : Str) (R S : Nat) : Row Str := .pow (.nm x .nil) (R - 1) (.pow (.nm y .nil) (S - 1) (.nm x (.nm y .nil)))
def sp_mixed_row (C0 : Addr) : Sp := fun vs H Q _ => ∃ (a b c : Addr) (n : Nat) (ds : Ds) (x y : Str) (f g : List Nat), vs = [.ref a, .ref b, .ref c] ∧ Mac C0 H a n ds ∧ Good n ds ∧ H b = some (.tup [.str x]) ∧ H c = some (.tup [.str y]) ∧ (x, f) ∈ ds ∧ (y, g) ∈ ds ∧ ∀ p R S H', Ex H H' → Rnd n f R → Rnd n g S → Rw H' p (mixR x y R S) → Q (.ref p) H'
theorem ok_mixed_row (T : Tx K mg C A FD) : (FnOk P w K mg base CX0 8 (A 29) (FD 29) ["machine", "u", "v"] (sp_mixed_row C)) := by
  refine T.d_mixed_row.F.ok sc_mixed_row (fun vs H Q E h => by obtain ⟨a, b, c, n, ds, x, y, f, g, rfl, hm, hg, hb, hc, hx, hy, k⟩ := h; rfl) (fun cdv A0 outer s H vs Q E hr h => ?_)
  obtain ⟨a, b, c, n, ds, x, y, f, g, rfl, hm, hg, hb, hc, hx, hy, k⟩ := h
  have hu := hu_of hr
  have hu64 := hr.units
  have hu2 : _ + 65 < cLine := (fun {A : Around} {k} (hr : Room k A) => (by have := hr.un; omega : A.units + 65 < cLine)) hr
  refine ⟨_, (pss_cons (ps_expr (pe_call (ok_need_permuting T) (hr.mono (by decide)) (by rfl) T.d_need_permuting.g T.d_need_permuting.F.kp T.d_need_permuting.b .nil pass0 (pa_cons (pv 0) pa_nil)))
    (pss_cons (ps_expr (pe_call (ok_need_names T) (hr.mono (by decide)) (by rfl) T.d_need_names.g T.d_need_names.F.kp T.d_need_names.b .nil pass0 (pa_cons (pe_op (kop_catA K) (pv 1) (pv 2)) (pa_cons (kpe_fld K (pv 0)) pa_nil))))
    (pss_one (ps_ret (pe_op (kop_catA K) (pe_op (kop_catA K) (pe_op (kop_catA K) (pe_call (ok_back_row T) (hr.mono (by decide)) (by rfl) T.d_back_row.g T.d_back_row.F.kp T.d_back_row.b .nil pass0 (pa_cons (pv 0) (pa_cons (pv 1) pa_nil))) (pe_call (ok_back_row T) (hr.mono (by decide)) (by rfl) T.d_back_row.g T.d_back_row.F.kp T.d_back_row.b .nil pass0 (pa_cons (pv 0) (pa_cons (pv 2) pa_nil)))) (pv 1)) (pv 2)))))), ?_⟩
  clear hu hu64 hu2
  walk_at "wp"
  refine ⟨a, n, ds, rfl, hm, hg, fun H1 e1 => ?_⟩
  walk_at "wp"
  have hb1 := e1 _ _ hb
  have hc1 := e1 _ _ hc
  refine r_catT (stT hb1) (stT hc1) (by walk_at "sz") hb1 hc1 fun u H2 e2 h2 => ?_
  walk_at "wp"
  have e12 := e1.trans e2
  obtain ⟨dx, d, nm, vs, hm1, hm2, hm3, hm4⟩ := (hm.ex' e12).ex
  refine ⟨a, C, dx, _, _, rfl, hm1, T.cl, T.nN, rfl, ?_⟩
  walk_at "wp"
  rw [names_map] at hm4
  refine ⟨u, nm, _, _, rfl, ⟨_, h2, .nm (.nm .nil)⟩, hm4, ⟨mem_names hx, mem_names hy, trivial⟩, hg.names, by show 0 < 4; omega, fun H3 e3 => ?_⟩
  walk_at "wp"
  have e123 := e12.trans e3
  refine ⟨a, b, n, ds, x, f, rfl, hm.ex' e123, hg, e123 _ _ hb, hx, fun p1 q1 r1 R H4 e4 hR j1 j2 j3 => ?_⟩
  walk_at "wp"
  have e14 := e123.trans e4
  refine ⟨a, c, n, ds, y, g, rfl, hm.ex' e14, hg, e14 _ _ hc, hy, fun p2 q2 r2 S H5 e5 hS k1 k2 k3 => ?_⟩
  walk_at "wp"
  have e15 := e14.trans e5
  have j1' := e5 _ _ j1
  refine r_catT (stT j1') (stT k1) (by walk_at "sz") j1' k1 fun s1 H6 e6 h6 => ?_
  walk_at "wp"
  have hb6 := e6 _ _ (e15 _ _ hb)
  refine r_catT (stT h6) (stT hb6) (by walk_at "sz") h6 hb6 fun s2 H7 e7 h7 => ?_
  walk_at "wp"
  have hc7 := e7 _ _ (e6 _ _ (e15 _ _ hc))
  refine r_catT (stT h7) (stT hc7) (by walk_at "sz") h7 hc7 fun s3 H8 e8 h8 => ?_
  have e68 := (e6.trans e7).trans e8
  have e58 := e5.trans e68
  refine k s3 R S H8 (e15.trans e68) hR hS ⟨_, h8, ?_⟩
  exact .pow (e58 _ _ j2) (e58 _ _ j3) (.nm .nil) (.pow (e68 _ _ k2) (e68 _ _ k3) (.nm .nil) (.nm (.nm .nil)))

/-- the row of the counts, the first i names -/
def crow (N : List Str) (cs : List Nat) : Nat → Row Str
  | 0 => .nil
  | i + 1 => if 0 < ap cs i then (crow N cs i).app (.pow (.nm (N.getD i "") .nil) (ap cs i) .nil) else crow N cs i
theorem crow_len (N : List Str) (cs : List Nat) : ∀ i, (crow N cs i).items.length ≤ i
  | 0 => Nat.le_refl _
  | i + 1 => by
    have ih := crow_len N cs i
    unfold crow
    split
    · have : ∀ r s : Row Str, (r.app s).items.length = r.items.length + s.items.length := by
        intro r s
        induction r with
        | nil => simp [Row.app, Row.items]
        | nm x r ih => simp [Row.app, Row.items, ih]; omega
        | pow j k r _ ih => simp [Row.app, Row.items, ih]; omega
      rw [this]
      simp [Row.items]
      omega
    · omega
theorem crow_names {N : List Str} {cs : List Nat} : ∀ {i}, i ≤ N.length → (crow N cs i).Names N
  | 0, _ => trivial
  | i + 1, h => by
    have ih := crow_names (N := N) (cs := cs) (i := i) (by omega)
    unfold crow
    split
    · refine Row.names_app ih ⟨⟨?_, trivial⟩, trivial⟩
      rw [List.getD_eq_getElem?_getD, List.getElem?_eq_getElem (by omega)]
      exact List.getElem_mem _
    · exact ih
theorem crow_depth (N : List Str) (cs : List Nat) : ∀ i, (crow N cs i).depth ≤ 1
  | 0 => Nat.zero_le _
  | i + 1 => by
    have ih := crow_depth N cs i
    unfold crow
    split
    · rw [Row.depth_app]
      have : (Row.pow (.nm (N.getD i "") .nil) (ap cs i) .nil : Row Str).depth = 1 := rfl
      omega
    · exact ih
theorem crow_below {N : List Str} {cs : List Nat} {B : Nat} (h : ∀ c ∈ cs, c < B) : ∀ {i}, i ≤ cs.length → (crow N cs i).Below B
  | 0, _ => trivial
  | i + 1, hi => by
    have ih := crow_below (N := N) h (i := i) (by omega)
    unfold crow
    split
    · exact Row.below_app ih ⟨h _ (ap_mem (by omega)), trivial, trivial⟩
    · exact ih
theorem crow_cnt {N : List Str} {cs : List Nat} (nd : N.Nodup) : ∀ {i j : Nat} (_ : i ≤ N.length) (hj : j < N.length), (crow N cs i).cnt N[j] = if j < i then ap cs j else 0
  | 0, j, _, _ => by simp [crow, Row.cnt]
  | i + 1, j, hi, hj => by
    have ih := crow_cnt (cs := cs) nd (i := i) (j := j) (by omega) hj
    have hN : N.getD i "" = N[i] := by rw [List.getD_eq_getElem?_getD, List.getElem?_eq_getElem (by omega)]; rfl
    have hone : (Row.pow (.nm (N.getD i "") .nil) (ap cs i) .nil : Row Str).cnt N[j] = if j = i then ap cs i else 0 := by
      simp only [Row.cnt, hN]
      by_cases h : j = i
      · subst h
        simp
      · rw [if_neg (fun e => h (nd_inj nd hj (by omega) e.symm)), if_neg h]
        simp
    unfold crow
    split
    · rw [Row.cnt_app, ih, hone]
      by_cases h : j = i
      · subst h
        simp
      · by_cases h2 : j < i
        · rw [if_pos h2, if_neg h, if_pos (by omega)]
          omega
        · rw [if_neg h2, if_neg h, if_neg (by omega)]
    · rw [ih]
      by_cases h : j = i
      · subst h
        simp
        omega
      · by_cases h2 : j < i
        · rw [if_pos h2, if_pos (by omega)]
        · rw [if_neg h2, if_neg (by omega)]
theorem crow_cnt0 {N : List Str} {cs : List Nat} {x : Str} (hx : x ∉ N) {i : Nat} (hi : i ≤ N.length) : (crow N cs i).cnt x = 0 := by
  rw [Row.cnt_flat, List.count_eq_zero]
  exact fun h => hx (Row.names_flat (crow_names hi) x h)
def sp_counted_row (C0 : Addr) : Sp := fun vs H Q _ => ∃ (a b : Addr) (n : Nat) (ds : Ds) (cs : List Nat), vs = [.ref a, .ref b] ∧ Mac C0 H a n ds ∧ Good n ds ∧ H b = some (.tup (encI cs)) ∧ cs.length = ds.length ∧ ∀ p H', Ex H H' → Rw H' p (crow (nms ds) cs ds.length) → Q (.ref p) H'
theorem ok_counted_row (T : Tx K mg C A FD) : (FnOk P w K mg base CX0 1 (A 30) (FD 30) ["machine", "counts"] (sp_counted_row C)) := by
  refine T.d_counted_row.F.ok sc_counted_row (fun vs H Q E h => by obtain ⟨a, b, n, ds, cs, rfl, hm, hg, hb, hl, k⟩ := h; rfl) (fun cdv A0 outer s H vs Q E hr h => ?_)
  obtain ⟨a, b, n, ds, cs, rfl, hm, hg, hb, hl, k⟩ := h
  have hu := hu_of hr
  have hu64 := hr.units
  have hu2 : _ + 65 < cLine := (fun {A : Around} {k} (hr : Room k A) => (by have := hr.un; omega : A.units + 65 < cLine)) hr
  refine ⟨_, (pss_one (ps_ret (kpe_tupleOf K (by rfl) T.z_tuple (pe_lc rfl sc_counted_row.nd (kpi_enumT K (by rfl) T.z_enumerate (pa_cons (kpe_fld K (pv 0)) pa_nil)) (blkOk_by (own := [("at", 2), ("name", 3)]) (N := N_counted_row) (sc := defScope s_counted_row) (by decide +kernel)) (fun _ _ _ _ _ => (kpg_tup K (n := 2) (by rfl) (pgs_cons (pg_name (i := 2) sc_counted_row.nd rfl (by first | exact .inl rfl | exact .inr rfl)) (pgs_cons (pg_name (i := 3) sc_counted_row.nd rfl (by first | exact .inl rfl | exact .inr rfl)) pgs_nil)))) (fun _ _ _ _ _ => (pts_one (pt_cmpR op_gt (pe_ix (kix_tup K) (pv 1) (pv 2) (fun _ _ => rfl)) pe_int (nomark _)))) (fun _ _ _ _ _ => (pe_tup (pa_cons (pe_tup (pa_cons (pv 3) pa_nil)) (pa_cons (pe_ix (kix_tup K) (pv 1) (pv 2) (fun _ _ => rfl)) pa_nil)))))))), ?_⟩
  clear hu hu64 hu2
  walk_at "wp"
  obtain ⟨dx, d, nm, vs, hm1, hm2, hm3, hm4⟩ := hm.ex
  refine ⟨a, C, dx, _, _, rfl, hm1, T.cl, T.nN, rfl, ?_⟩
  walk_at "wp"
  rw [names_map] at hm4
  have hL : ((ds.map (·.1)).map V.str).length = ds.length := by simp
  refine ⟨nm, _, rfl, hm4.sq, lc_I (n := ds.length) (fun i acc H1 => Parts H1 acc (crow (nms ds) cs i)) (by rw [← hL]; exact wk_enumT hm4.sq) (by have := hg.eight; omega) (fun _ _ => .nil) (fun _ _ _ _ e h => h.ei e) (fun i acc x H2 H3 hi e hI y P N hP hN => ?_) fun D acc H2 hD e hDl _ hI => ?_⟩
  · obtain ⟨t, u, v, rfl, hu, hv, ht, e2⟩ := yp_get y
    cases hu
    rw [List.getElem?_map, Option.map_eq_some_iff] at hv
    obtain ⟨x, hx, rfl⟩ := hv
    refine g_two (stT ht) ?_
    refine ⟨rfl, ?_⟩
    walk_at "wp"
    refine r_ixE (stT (e _ _ hb)) (by omega) ?_
    walk_at "wp"
    refine i_d (fun hc => ?_) (fun hc => ?_)
    · walk_at "wp"
      refine al (by walk_at "sz") fun r H4 hr e4 h4 => ?_
      walk_at "wp"
      refine r_ixE (stT (e4 _ _ (e _ _ hb))) (by omega) ?_
      walk_at "wp"
      refine al (by walk_at "sz") fun q H5 hq e5 h5 => ?_
      refine hP _ H5 (e4.trans e5) ?_
      have hc2 : 0 < ap cs i := by omega
      unfold crow
      rw [if_pos hc2]
      have hxd : List.getD (nms ds) i (Str.ofString "") = x := by rw [List.getD_eq_getElem?_getD, hx]; rfl
      rw [hxd]
      exact (hI.ei (e4.trans e5).ei).app (.pow h5 (e5 _ _ h4) (.nm .nil) .nil)
    · walk_at "wp"
      refine hN _ (Ex.refl _) ?_
      unfold crow
      rw [if_neg (by omega)]
      exact hI
  · refine r_tupL (stL hDl) fun p H3 _ e3 h3 => ?_
    exact k p H3 (e.trans e3) ⟨_, h3, hI.ei e3.ei⟩
def subL (ms cs : List Nat) : List Nat := (List.range ms.length).map fun i => ap ms i - ap cs i
theorem subL_len (ms cs : List Nat) : (subL ms cs).length = ms.length := by unfold subL; simp
theorem ap_subL {ms cs : List Nat} {i : Nat} (h : i < ms.length) : ap (subL ms cs) i = ap ms i - ap cs i := by
  unfold subL ap
  rw [List.getD_eq_getElem?_getD, List.getElem?_map, List.getElem?_range h]
  rfl
def sp_lacking_counts : Sp := fun vs H Q _ => ∃ (a b : Addr) (ms cs : List Nat), vs = [.ref a, .ref b] ∧ H a = some (.lst (encI ms)) ∧ H b = some (.tup (encI cs)) ∧ cs.length = ms.length ∧ ms.length ≤ 100 ∧ (∀ i, i < ms.length → ap cs i ≤ ap ms i) ∧ ∀ p H', Ex H H' → H' p = some (.tup (encI (subL ms cs))) → Q (.ref p) H'
theorem ok_lacking_counts (T : Tx K mg C A FD) : (FnOk P w K mg base CX0 1 (A 31) (FD 31) ["most", "counts"] sp_lacking_counts) := by
  refine T.d_lacking_counts.F.ok sc_lacking_counts (fun vs H Q E h => by obtain ⟨a, b, ms, cs, rfl, ha, hb, hl, hn, hle, k⟩ := h; rfl) (fun cdv A0 outer s H vs Q E hr h => ?_)
  obtain ⟨a, b, ms, cs, rfl, ha, hb, hl, hn, hle, k⟩ := h
  have hu := hu_of hr
  have hu64 := hr.units
  have hu2 : _ + 65 < cLine := (fun {A : Around} {k} (hr : Room k A) => (by have := hr.un; omega : A.units + 65 < cLine)) hr
  refine ⟨_, (pss_one (ps_ret (kpe_tupleOf K (by rfl) T.z_tuple (pe_lc rfl sc_lacking_counts.nd (kpi_enum K (by rfl) T.z_enumerate (pa_cons (pv 0) pa_nil)) (blkOk_by (own := [("at", 2), ("high", 3)]) (N := N_lacking_counts) (sc := defScope s_lacking_counts) (by decide +kernel)) (fun _ _ _ _ _ => (kpg_tup K (n := 2) (by rfl) (pgs_cons (pg_name (i := 2) sc_lacking_counts.nd rfl (by first | exact .inl rfl | exact .inr rfl)) (pgs_cons (pg_name (i := 3) sc_lacking_counts.nd rfl (by first | exact .inl rfl | exact .inr rfl)) pgs_nil)))) (fun _ _ _ _ _ => pts_nil) (fun _ _ _ _ _ => (pe_op op_sub (pv 3) (pe_ix (kix_tup K) (pv 1) (pv 2) (fun _ _ => rfl)))))))), ?_⟩
  clear hu hu64 hu2
  walk_at "wp"
  refine ⟨a, _, rfl, stL ha, lc_V (encI (subL ms cs)) (wk_enumL (stL ha)) (by rw [encI_len]; omega) (by rw [encI_len, encI_len, subL_len]) (fun i x y H1 H2 hy e hx R hR => ?_) fun D H1 hD e hDl => ?_⟩
  · obtain ⟨t, u, v, rfl, hu, hv, ht, e2⟩ := yp_get hx
    cases hu
    obtain ⟨hi, rfl⟩ := encI_at hv
    obtain ⟨_, rfl⟩ := encI_at hy
    refine g_two (stT ht) ?_
    refine ⟨rfl, ?_⟩
    walk_at "wp"
    refine r_ixE (stT (e _ _ hb)) (by omega) ?_
    walk_at "wp"
    rw [ap_subL hi] at hR
    have := hle i hi
    rw [show ((ap ms i : Nat) : Int) - ((ap cs i : Nat) : Int) = ((ap ms i - ap cs i : Nat) : Int) by omega]
    exact hR _ (Ex.refl _)
  · refine r_tupL (stL hDl) fun p H3 _ e3 h3 => ?_
    exact k p H3 (e.trans e3) h3

end
end Eo
namespace Eo
open PySem PyProof.Rows L2 L2.DX
/-! words of the walk: wp goes on where nothing is open; hl looks an object up; ex: what stood stands -/
local macro_rules | `(tactic| walk_at "hl") => `(tactic| first | assumption | exact PlT.sq (by assumption) | (refine stT ?_; walk_at "hl") | (refine stL ?_; walk_at "hl") | (refine Ex.at (by assumption) ?_; walk_at "hl") | (refine Mu.tup (by assumption) ?_; walk_at "hl") | (refine Ex.sqT (by assumption) ?_; walk_at "hl") | (refine Ex.sqL (by assumption) ?_; walk_at "hl") | (refine Ex.plT (by assumption) ?_; walk_at "hl") | (refine Mu.plT (by assumption) ?_; walk_at "hl"))
local macro_rules | `(tactic| walk_at "ex") => `(tactic| first | assumption | exact Ex.refl _ | (refine Ex.trans ?_ (by assumption); walk_at "ex") | (refine Ex.mu ?_ (by assumption) (by first | assumption | walk_at "fr"); walk_at "ex"))
local macro_rules | `(tactic| walk_at "fr") => `(tactic| first | assumption | (refine Ex.free (by assumption) ?_; walk_at "fr"))
local macro_rules | `(tactic| walk_at "rf") => `(tactic| with_unfolding_all rfl)
local macro_rules | `(tactic| walk_at "wp") => `(tactic| repeat (with_reducible first
  | refine q_seq ?_ | refine q_asg ?_ | refine q_ret ?_ | refine q_drop ?_ | refine q_if ?_ | refine q_next ?_ | refine q_par ?_ | refine q_par3 ?_ | refine q_retN ?_ | refine q_cont ?_ | refine q_brk ?_
  | refine e_var (by with_unfolding_all rfl) ?_ | refine e_c ?_ | refine e_op ?_ | refine e_cons ?_ | refine e_nil ?_ | refine e_test ?_ | refine e_B ?_ | refine e_yes ?_ | refine e_cb ?_ | refine e_call ?_ | refine e_then ?_ | refine e_tup ?_ | refine e_lst ?_
  | refine x_bl ?_ | refine i_T ?_ | refine i_F ?_ | refine x_two ?_ | refine x_three ?_
  | refine r_I0 ?_ | refine r_add ?_ | refine r_ip ?_ | refine g_nm ?_ | refine r_eqI ?_ | refine r_neI ?_ | refine r_eq (by with_unfolding_all rfl) ?_ | refine r_ne (by with_unfolding_all rfl) ?_
  | refine e_not ?_ | refine e_and ?_ | refine e_or ?_ | refine e_andV ?_ | refine e_orV ?_ | refine e_notV ?_ | refine e_ifx ?_ | refine e_idxF ?_ | refine e_idxI ?_ | refine e_sl ?_ | refine e_part ?_ | refine e_nopart ?_ | refine f_revA ?_ | refine e_lenSet ?_ | refine l_dcT ?_ | refine e_sadd ?_ | refine q_asgS ?_ | refine q_augS ?_ | refine e_tupRg ?_ | refine e_lstRg ?_ | refine e_rg1 ?_ | refine e_rg2 ?_ | refine e_dget ?_ | refine e_din ?_ | refine e_dnotin ?_ | refine e_dget2 ?_ | refine q_dput ?_ | refine e_un ?_ | refine e_chain ?_ | refine e_bm ?_ | refine e_bm0 ?_ | refine e_fld ?_ | refine q_asgT ?_
  | refine l_any ?_ | refine l_tup ?_ | refine l_list ?_ | refine l_rng1 ?_ | refine l_rng2 ?_ | refine l_str ?_ | refine l_enumL ?_ | refine l_enumT ?_ | refine l_zip ?_ | refine l_zipM ?_
  | refine f_tup ?_ | refine f_list ?_ | refine f_rng1 ?_ | refine f_enumL ?_ | refine f_enumT ?_))
local macro_rules | `(tactic| walk_at "sz") => `(tactic| first | decide | (refine small ?_; simp; done) | (refine small ?_; simp; omega) | (refine smallL ?_; simp; done) | (refine smallL ?_; simp; omega) | (simp; done) | (simp; omega))
section
variable {P : Program} {w : World} {K : PySem.W.Frag} {mg : Str → Option Value} {base : Heap} {C : Addr} {A : Nat → Addr} {FD : Nat → FuncData}
/-- a row that leads to e and whose counts are whole rounds -/
structure RowFor (n : Nat) (ds : Ds) (B L : Nat) (e : List Nat) (r : Row Str) : Prop where
  eff : eff n ds r.flat = e
  bal : ∀ x, pw n (dl n ds x) (r.cnt x) = idn n
  names : r.Names (nms ds)
  depth : r.depth ≤ 1
  cnt : ∀ x, r.cnt x ≤ B
  below : r.Below (2 ^ 49)
  len : r.items.length ≤ L
/-- the same, one deeper -/
structure RowEnd (n : Nat) (ds : Ds) (B L : Nat) (e : List Nat) (r : Row Str) : Prop where
  eff : eff n ds r.flat = e
  bal : ∀ x, pw n (dl n ds x) (r.cnt x) = idn n
  names : r.Names (nms ds)
  depth : r.depth ≤ 2
  cnt : ∀ x, r.cnt x ≤ B
  below : r.Below (2 ^ 49)
  len : r.items.length ≤ L
theorem RowFor.toEnd {n : Nat} {ds : Ds} {B L B' L' : Nat} {e : List Nat} {r : Row Str} (h : RowFor n ds B L e r) (h1 : B ≤ B') (h2 : L ≤ L') : RowEnd n ds B' L' e r := ⟨h.eff, h.bal, h.names, Nat.le_succ_of_le h.depth, fun x => Nat.le_trans (h.cnt x) h1, h.below, Nat.le_trans h.len h2⟩
theorem items_app (r s : Row Str) : (r.app s).items.length = r.items.length + s.items.length := by
  induction r with
  | nil => simp [Row.app, Row.items]
  | nm x r ih => simp [Row.app, Row.items, ih]; omega
  | pow j k r _ ih => simp [Row.app, Row.items, ih]; omega
theorem RowFor.nil (n : Nat) (ds : Ds) : RowFor n ds 0 0 (idn n) .nil := ⟨rfl, fun _ => rfl, trivial, Nat.zero_le _, fun _ => Nat.le_refl _, trivial, Nat.le_refl _⟩
theorem RowFor.mono {n : Nat} {ds : Ds} {B L B' L' : Nat} {e : List Nat} {r : Row Str} (h : RowFor n ds B L e r) (h1 : B ≤ B') (h2 : L ≤ L') : RowFor n ds B' L' e r := ⟨h.eff, h.bal, h.names, h.depth, fun x => Nat.le_trans (h.cnt x) h1, h.below, Nat.le_trans h.len h2⟩
theorem RowFor.app {n : Nat} {ds : Ds} (hA : AllPm n ds) {B L B' L' : Nat} {e f : List Nat} {r s : Row Str} (h : RowFor n ds B L e r) (g : RowFor n ds B' L' f s) : RowFor n ds (B + B') (L + L') (cmp e f) (r.app s) :=
  ⟨by rw [eff_app hA, h.eff, g.eff], fun x => by rw [Row.cnt_app, pw_add (dl_pm hA x).ef, h.bal, g.bal, id_cmp (Ef.idn n)], Row.names_app h.names g.names, by rw [Row.depth_app]; have := h.depth; have := g.depth; omega,
    fun x => by rw [Row.cnt_app]; exact Nat.add_le_add (h.cnt x) (g.cnt x), Row.below_app h.below g.below, by rw [items_app]; exact Nat.add_le_add h.len g.len⟩
/-- one power at the end -/
theorem RowFor.powEnd {n : Nat} {ds : Ds} (hA : AllPm n ds) {B L B' L' : Nat} {e f : List Nat} {r s : Row Str} {k K2 : Nat} (h : RowFor n ds B L e r) (g : RowFor n ds B' L' f s) (hk : k ≤ K2) (hk2 : k < 2 ^ 49) : RowEnd n ds (B + K2 * B') (L + 1) (cmp e (pw n f k)) (r.app (.pow s k .nil)) := by
  refine ⟨?_, fun x => ?_, Row.names_app h.names ⟨g.names, trivial⟩, ?_, fun x => ?_, Row.below_app h.below ⟨hk2, g.below, trivial⟩, ?_⟩
  · have hp : Pm n f := by rw [← g.eff]; exact eff_pm hA _
    rw [eff_app hA, h.eff, eff_pow hA, g.eff, show (Row.nil : Row Str).flat = [] from rfl, show Eo.eff n ds [] = idn n from rfl, cmp_id (hp.pw k).ef]
  · rw [Row.cnt_app, pw_add (dl_pm hA x).ef, h.bal, id_cmp ((dl_pm hA x).pw _).ef]
    show pw n _ (k * s.cnt x + 0) = _
    rw [Nat.add_zero, Nat.mul_comm, pw_mul (dl_pm hA x).ef, g.bal, pw_id]
  · rw [Row.depth_app]
    show max r.depth (max (s.depth + 1) 0) ≤ 2
    have := h.depth
    have := g.depth
    omega
  · rw [Row.cnt_app]
    refine Nat.add_le_add (h.cnt x) ?_
    show k * s.cnt x + 0 ≤ _
    exact Nat.mul_le_mul hk (g.cnt x)
  · rw [items_app]
    exact Nat.add_le_add h.len (Nat.le_refl 1)
theorem dl_in {n : Nat} {ds : Ds} (hg : (nms ds).Nodup) {x : Str} {f : List Nat} (h : (x, f) ∈ ds) : dl n ds x = f := by
  unfold dl
  have : ds.lookup x = some f := by
    induction ds with
    | nil => cases h
    | cons p ds ih =>
      obtain ⟨y, g⟩ := p
      rw [List.lookup_cons]
      simp only [nms, List.map_cons, List.nodup_cons] at hg
      rcases List.mem_cons.mp h with e | h'
      · cases e
        simp
      · have : (x == y) = false := by
          rw [beq_eq_false_iff_ne]
          intro e
          subst e
          exact hg.1 (List.mem_map.mpr ⟨(x, f), h', rfl⟩)
        rw [this]
        exact ih hg.2 h'
  rw [this]
theorem eff_nm {n : Nat} {ds : Ds} (hA : AllPm n ds) (x : Str) : eff n ds (Row.nm x .nil).flat = dl n ds x := eff_single hA x
theorem eff_nm2 {n : Nat} {ds : Ds} (hA : AllPm n ds) (x : Str) (r : Row Str) : eff n ds (Row.nm x r).flat = cmp (dl n ds x) (eff n ds r.flat) := by
  have := eff_app hA (Row.nm x .nil) r
  rw [eff_nm hA] at this
  exact this
theorem eff_nil (n : Nat) (ds : Ds) : eff n ds (Row.nil : Row Str).flat = idn n := rfl
/-- the row of a mix -/
theorem mixR_for {n : Nat} {ds : Ds} (g : Good n ds) {x y : Str} {f h : List Nat} {R S : Nat} (hx : (x, f) ∈ ds) (hy : (y, h) ∈ ds) (hne : x ≠ y) (hR : Rnd n f R) (hS : Rnd n h S) : RowFor n ds (2 ^ n) 4 (mix f h) (mixR x y R S) := by
  have dx := dl_in (n := n) g.apart hx
  have dy := dl_in (n := n) g.apart hy
  have pf : Pm n f := g.perm _ hx
  have ph : Pm n h := g.perm _ hy
  have h49 : (2 : Nat) ^ n ≤ 2 ^ 49 := Nat.pow_le_pow_right (by omega) g.few
  have c1 : ∀ z, (mixR x y R S).cnt z = if z = x then R else if z = y then S else 0 := fun z => by
    have := hR.pos
    have := hS.pos
    unfold mixR
    simp only [Row.cnt]
    by_cases h1 : z = x
    · subst h1
      rw [if_pos rfl, if_neg (Ne.symm hne), if_pos rfl]
      omega
    · by_cases h2 : z = y
      · subst h2
        rw [if_neg (Ne.symm h1), if_pos rfl, if_neg h1, if_pos rfl]
        omega
      · rw [if_neg (Ne.symm h1), if_neg (Ne.symm h2), if_neg h1, if_neg h2]
        omega
  refine ⟨?_, fun z => ?_, ?_, (show max (0 + 1) (max (0 + 1) 0) ≤ 1 by decide), fun z => ?_, ?_, Nat.le_refl 4⟩
  · unfold mixR
    rw [eff_pow g.perm, eff_pow g.perm, eff_nm g.perm, eff_nm g.perm, eff_nm2 g.perm, eff_nm g.perm, dx, dy, pw_back pf hR.id hR.pos, pw_back ph hS.id hS.pos]
    unfold mix
    rw [cmp_assoc (pf.inv.cmp ph.inv).ef pf.ef, cmp_assoc pf.inv.ef ph.inv.ef]
  · rw [c1]
    by_cases h1 : z = x
    · subst h1
      rw [if_pos rfl, dx, hR.id]
    · by_cases h2 : z = y
      · subst h2
        rw [if_neg h1, if_pos rfl, dy, hS.id]
      · rw [if_neg h1, if_neg h2]
        rfl
  · exact ⟨⟨mem_names hx, trivial⟩, ⟨mem_names hy, trivial⟩, mem_names hx, mem_names hy, trivial⟩
  · rw [c1]
    have := hR.le
    have := hS.le
    split
    · omega
    · split <;> omega
  · have := hR.le
    have := hS.le
    have := hR.pos
    have := hS.pos
    exact ⟨by omega, trivial, by omega, trivial, trivial⟩
/-- a step led around a deed -/
theorem led_for {n : Nat} {ds : Ds} (g : Good n ds) {x : Str} {f e : List Nat} {R B L : Nat} {r : Row Str} (hx : (x, f) ∈ ds) (hR : Rnd n f R) (h : RowFor n ds B L e r) : RowFor n ds (B + 2 ^ n) (L + 2) (conj f e) (.pow (.nm x .nil) (R - 1) (r.app (.nm x .nil))) := by
  have dx := dl_in (n := n) g.apart hx
  have pf : Pm n f := g.perm _ hx
  have h49 : (2 : Nat) ^ n ≤ 2 ^ 49 := Nat.pow_le_pow_right (by omega) g.few
  have := hR.le
  have := hR.pos
  have pe : Pm n e := by rw [← h.eff]; exact eff_pm g.perm _
  have c1 : ∀ z, (Row.pow (.nm x .nil) (R - 1) (r.app (.nm x .nil))).cnt z = (if z = x then R else 0) + r.cnt z := fun z => by
    show (R - 1) * ((if x = z then 1 else 0) + 0) + (r.app (.nm x .nil)).cnt z = _
    rw [Row.cnt_app]
    show (R - 1) * ((if x = z then 1 else 0) + 0) + (r.cnt z + ((if x = z then 1 else 0) + 0)) = _
    by_cases h1 : z = x
    · subst h1
      rw [if_pos rfl, if_pos rfl]
      omega
    · rw [if_neg (Ne.symm h1), if_neg h1]
      omega
  refine ⟨?_, fun z => ?_, ?_, ?_, fun z => ?_, ?_, ?_⟩
  · rw [eff_pow g.perm, eff_app g.perm, eff_nm g.perm, dx, h.eff, pw_back pf hR.id hR.pos]
    unfold conj
    rw [cmp_assoc pf.inv.ef pe.ef]
  · rw [c1, pw_add (dl_pm g.perm z).ef, h.bal]
    by_cases h1 : z = x
    · subst h1
      rw [if_pos rfl, dx, hR.id, id_cmp (Ef.idn n)]
    · rw [if_neg h1]
      exact id_cmp (Ef.idn n)
  · exact ⟨⟨mem_names hx, trivial⟩, Row.names_app h.names ⟨mem_names hx, trivial⟩⟩
  · show max (0 + 1) (r.app (.nm x .nil)).depth ≤ 1
    rw [Row.depth_app]
    have := h.depth
    show max (0 + 1) (max r.depth 0) ≤ 1
    omega
  · rw [c1]
    have := h.cnt z
    split <;> omega
  · exact ⟨by omega, trivial, Row.below_app h.below trivial⟩
  · show (r.app (.nm x .nil)).items.length + 1 ≤ L + 2
    rw [items_app]
    have := h.len
    show r.items.length + 1 + 1 ≤ _
    omega

/-- pairs (effect, row) on the heap -/
abbrev Sts := List (List Nat × Row Str)
def PairAt (H : Hp) (q : Addr) (e : List Nat) (r : Row Str) : Prop := ∃ a b, H q = some (.tup [.ref a, .ref b]) ∧ H a = some (.tup (encI e)) ∧ Rw H b r
theorem PairAt.ei {H H' : Hp} {q : Addr} {e : List Nat} {r : Row Str} (h : PairAt H q e r) (x : EI H H') : PairAt H' q e r := let ⟨a, b, h1, h2, h3⟩ := h; ⟨a, b, x.tup h1, x.tup h2, h3.ei x⟩
def PairsAt (H : Hp) (vs : List V) (ps : Sts) : Prop := vs.length = ps.length ∧ ∀ (i : Nat) (e : List Nat) (r : Row Str), ps[i]? = some (e, r) → ∃ q, vs[i]? = some (.ref q) ∧ PairAt H q e r
theorem PairsAt.ei {H H' : Hp} {vs : List V} {ps : Sts} (h : PairsAt H vs ps) (x : EI H H') : PairsAt H' vs ps := ⟨h.1, fun i e r hi => let ⟨q, h1, h2⟩ := h.2 i e r hi; ⟨q, h1, h2.ei x⟩⟩
theorem PairsAt.nil (H : Hp) : PairsAt H [] [] := ⟨rfl, fun i e r h => by simp at h⟩
theorem PairsAt.snoc {H : Hp} {vs : List V} {ps : Sts} {q : Addr} {e : List Nat} {r : Row Str} (h : PairsAt H vs ps) (g : PairAt H q e r) : PairsAt H (vs ++ [.ref q]) (ps ++ [(e, r)]) := by
  refine ⟨by rw [List.length_append, List.length_append, h.1]; rfl, fun i e2 r2 k => ?_⟩
  rcases snoc_get k with ⟨hi, k'⟩ | ⟨rfl, k'⟩
  · obtain ⟨a, k1, k2⟩ := h.2 i e2 r2 k'
    exact ⟨a, by rw [List.getElem?_append_left (by rw [h.1]; exact hi)]; exact k1, k2⟩
  · cases k'
    exact ⟨q, by rw [← h.1]; exact snoc_last _ _, g⟩
theorem PairsAt.get {H : Hp} {vs : List V} {ps : Sts} (h : PairsAt H vs ps) {i : Nat} {v : V} (k : vs[i]? = some v) : ∃ e r q, ps[i]? = some (e, r) ∧ v = .ref q ∧ PairAt H q e r := by
  have hi : i < ps.length := by rw [← h.1]; exact (List.getElem?_eq_some_iff.mp k).1
  obtain ⟨q, h1, h2⟩ := h.2 i _ _ (List.getElem?_eq_getElem hi)
  rw [k] at h1
  exact ⟨_, _, q, List.getElem?_eq_getElem hi, Option.some.inj h1, h2⟩
def encK (f : List Nat) : List Key := f.map fun (n : Nat) => (Sum.inl (n : Int) : Key)
theorem encK_V (f : List Nat) : (encK f).map kV = encI f := by unfold encK encI; rw [List.map_map]; rfl
theorem encK_inj {f g : List Nat} (h : encK f = encK g) : f = g := by
  unfold encK at h
  refine List.map_inj_right (f := fun (n : Nat) => (Sum.inl (n : Int) : Key)) (fun x y e => ?_) |>.mp h
  have := Sum.inl.inj e
  omega
/-- a dict from effects to rows, in the order of the list -/
def FoundAt (H : Hp) (kvs : List (List Key × V)) (ps : Sts) : Prop := kvs.length = ps.length ∧ ∀ (i : Nat) (e : List Nat) (r : Row Str), ps[i]? = some (e, r) → ∃ p, kvs[i]? = some (encK e, .ref p) ∧ Rw H p r
theorem FoundAt.ei {H H' : Hp} {kvs : List (List Key × V)} {ps : Sts} (h : FoundAt H kvs ps) (x : EI H H') : FoundAt H' kvs ps := ⟨h.1, fun i e r hi => let ⟨q, h1, h2⟩ := h.2 i e r hi; ⟨q, h1, h2.ei x⟩⟩
theorem FoundAt.nil (H : Hp) : FoundAt H [] [] := ⟨rfl, fun i e r h => by simp at h⟩
theorem FoundAt.keys {H : Hp} {kvs : List (List Key × V)} {ps : Sts} (h : FoundAt H kvs ps) : kvs.map (·.1) = (ps.map (·.1)).map encK := List.ext_getElem? fun i => by
  by_cases hi : i < ps.length
  · obtain ⟨p, h1, _⟩ := h.2 i _ _ (List.getElem?_eq_getElem hi)
    rw [List.getElem?_map, h1, List.getElem?_map, List.getElem?_map, List.getElem?_eq_getElem hi]
    rfl
  · rw [List.getElem?_eq_none (by rw [List.length_map, h.1]; omega), List.getElem?_eq_none (by rw [List.length_map, List.length_map]; omega)]
theorem valV_none {κ : Type} [DecidableEq κ] {kvs : List (κ × V)} {k : κ} (h : k ∉ kvs.map (·.1)) : valV kvs k = none := by
  cases e : valV kvs k with
  | none => rfl
  | some v =>
    exfalso
    unfold valV at e
    rw [Option.map_eq_some_iff] at e
    obtain ⟨p, hp, _⟩ := e
    have h1 := List.find?_some hp
    have h2 := List.mem_of_find?_eq_some hp
    exact h (List.mem_map.mpr ⟨p, h2, by simpa using h1⟩)
theorem FoundAt.none {H : Hp} {kvs : List (List Key × V)} {ps : Sts} (h : FoundAt H kvs ps) {e : List Nat} (he : e ∉ ps.map (·.1)) : valV kvs (encK e) = none := valV_none (by
  rw [h.keys]
  intro m
  obtain ⟨f, hf, e2⟩ := List.mem_map.mp m
  exact he (by rw [← encK_inj e2]; exact hf))
theorem FoundAt.some {H : Hp} {kvs : List (List Key × V)} {ps : Sts} (h : FoundAt H kvs ps) (nd : (ps.map (·.1)).Nodup) {i : Nat} {e : List Nat} {r : Row Str} (he : ps[i]? = some (e, r)) : ∃ p, valV kvs (encK e) = some (.ref p) ∧ Rw H p r := by
  obtain ⟨p, h1, h2⟩ := h.2 i e r he
  refine ⟨p, valV_nodup ?_ (List.mem_of_getElem? h1), h2⟩
  rw [h.keys]
  exact nodup_map nd fun a _ b _ => encK_inj
theorem FoundAt.put {H : Hp} {kvs : List (List Key × V)} {ps : Sts} {p : Addr} {e : List Nat} {r : Row Str} (h : FoundAt H kvs ps) (he : e ∉ ps.map (·.1)) (hp : Rw H p r) : FoundAt H (putK kvs (encK e) (.ref p)) (ps ++ [(e, r)]) := by
  have e1 : putK kvs (encK e) (.ref p) = kvs ++ [(encK e, .ref p)] := by
    unfold putK
    rw [if_neg]
    rw [valV_any, h.none he]
    decide
  rw [e1]
  refine ⟨by rw [List.length_append, List.length_append, h.1]; rfl, fun i e2 r2 k => ?_⟩
  rcases snoc_get k with ⟨hi, k'⟩ | ⟨rfl, k'⟩
  · obtain ⟨a, k1, k2⟩ := h.2 i e2 r2 k'
    exact ⟨a, by rw [List.getElem?_append_left (by rw [h.1]; exact hi)]; exact k1, k2⟩
  · cases k'
    exact ⟨p, by rw [← h.1]; exact snoc_last _ _, hp⟩

end
end Eo
namespace Eo
open PySem PyProof.Rows L2 L2.DX
/-! words of the walk: wp goes on where nothing is open; hl looks an object up; ex: what stood stands -/
local macro_rules | `(tactic| walk_at "hl") => `(tactic| first | assumption | exact PlT.sq (by assumption) | (refine stT ?_; walk_at "hl") | (refine stL ?_; walk_at "hl") | (refine Ex.at (by assumption) ?_; walk_at "hl") | (refine Mu.tup (by assumption) ?_; walk_at "hl") | (refine Ex.sqT (by assumption) ?_; walk_at "hl") | (refine Ex.sqL (by assumption) ?_; walk_at "hl") | (refine Ex.plT (by assumption) ?_; walk_at "hl") | (refine Mu.plT (by assumption) ?_; walk_at "hl"))
local macro_rules | `(tactic| walk_at "ex") => `(tactic| first | assumption | exact Ex.refl _ | (refine Ex.trans ?_ (by assumption); walk_at "ex") | (refine Ex.mu ?_ (by assumption) (by first | assumption | walk_at "fr"); walk_at "ex"))
local macro_rules | `(tactic| walk_at "fr") => `(tactic| first | assumption | (refine Ex.free (by assumption) ?_; walk_at "fr"))
local macro_rules | `(tactic| walk_at "rf") => `(tactic| with_unfolding_all rfl)
local macro_rules | `(tactic| walk_at "wp") => `(tactic| repeat (with_reducible first
  | refine q_seq ?_ | refine q_asg ?_ | refine q_ret ?_ | refine q_drop ?_ | refine q_if ?_ | refine q_next ?_ | refine q_par ?_ | refine q_par3 ?_ | refine q_retN ?_ | refine q_cont ?_ | refine q_brk ?_
  | refine e_var (by with_unfolding_all rfl) ?_ | refine e_c ?_ | refine e_op ?_ | refine e_cons ?_ | refine e_nil ?_ | refine e_test ?_ | refine e_B ?_ | refine e_yes ?_ | refine e_cb ?_ | refine e_call ?_ | refine e_then ?_ | refine e_tup ?_ | refine e_lst ?_
  | refine x_bl ?_ | refine i_T ?_ | refine i_F ?_ | refine x_two ?_ | refine x_three ?_
  | refine r_I0 ?_ | refine r_add ?_ | refine r_ip ?_ | refine g_nm ?_ | refine r_eqI ?_ | refine r_neI ?_ | refine r_eq (by with_unfolding_all rfl) ?_ | refine r_ne (by with_unfolding_all rfl) ?_
  | refine e_not ?_ | refine e_and ?_ | refine e_or ?_ | refine e_andV ?_ | refine e_orV ?_ | refine e_notV ?_ | refine e_ifx ?_ | refine e_idxF ?_ | refine e_idxI ?_ | refine e_sl ?_ | refine e_part ?_ | refine e_nopart ?_ | refine f_revA ?_ | refine e_lenSet ?_ | refine l_dcT ?_ | refine e_sadd ?_ | refine q_asgS ?_ | refine q_augS ?_ | refine e_tupRg ?_ | refine e_lstRg ?_ | refine e_rg1 ?_ | refine e_rg2 ?_ | refine e_dget ?_ | refine e_din ?_ | refine e_dnotin ?_ | refine e_dget2 ?_ | refine q_dput ?_ | refine e_un ?_ | refine e_chain ?_ | refine e_bm ?_ | refine e_bm0 ?_ | refine e_fld ?_ | refine q_asgT ?_
  | refine l_any ?_ | refine l_tup ?_ | refine l_list ?_ | refine l_rng1 ?_ | refine l_rng2 ?_ | refine l_str ?_ | refine l_enumL ?_ | refine l_enumT ?_ | refine l_zip ?_ | refine l_zipM ?_
  | refine f_tup ?_ | refine f_list ?_ | refine f_rng1 ?_ | refine f_enumL ?_ | refine f_enumT ?_))
local macro_rules | `(tactic| walk_at "sz") => `(tactic| first | decide | (refine small ?_; simp; done) | (refine small ?_; simp; omega) | (refine smallL ?_; simp; done) | (refine smallL ?_; simp; omega) | (simp; done) | (simp; omega))
section
variable {P : Program} {w : World} {K : PySem.W.Frag} {mg : Str → Option Value} {base : Heap} {C : Addr} {A : Nat → Addr} {FD : Nat → FuncData}
def sp_led_around : Sp := fun vs H Q _ => ∃ (a b c q : Addr) (n : Nat) (ds : Ds) (x : Str) (f e : List Nat) (r : Row Str), vs = [.ref a, .ref b, .ref c] ∧ H a = some (.tup [.str x, .ref q]) ∧ H q = some (.tup (encI f)) ∧ RndAt H b n ds ∧ (x, f) ∈ ds ∧ PairAt H c e r ∧ Pm n f ∧ Pm n e ∧ n ≤ 100 ∧ r.items.length ≤ 50000 ∧
  ∀ p R H', Ex H H' → Rnd n f R → PairAt H' p (conj f e) (.pow (.nm x .nil) (R - 1) (r.app (.nm x .nil))) → Q (.ref p) H'
theorem ok_led_around (T : Tx K mg C A FD) : (FnOk P w K mg base CX0 2 (A 35) (FD 35) ["deed", "rounds", "step"] sp_led_around) := by
  refine T.d_led_around.F.ok sc_led_around (fun vs H Q E h => by obtain ⟨a, b, c, q, n, ds, x, f, e, r, rfl, ha, hq, hb, hx, hc, pf, pe, hn, hl, k⟩ := h; rfl) (fun cdv A0 outer s H vs Q E hr h => ?_)
  obtain ⟨a, b, c, q, n, ds, x, f, e, r, rfl, ha, hq, hb, hx, hc, pf, pe, hn, hl, k⟩ := h
  have hu := hu_of hr
  have hu64 := hr.units
  have hu2 : _ + 65 < cLine := (fun {A : Around} {k} (hr : Room k A) => (by have := hr.un; omega : A.units + 65 < cLine)) hr
  refine ⟨_, (pss_cons (ps_asg (pv 0) (kpg_tup K (n := 2) (by rfl) (pgs_cons (pg_name (i := 3) sc_led_around.nd rfl (by first | exact .inl rfl | exact .inr rfl)) (pgs_cons (pg_name (i := 4) sc_led_around.nd rfl (by first | exact .inl rfl | exact .inr rfl)) pgs_nil))))
    (pss_cons (ps_set (i := 5) sc_led_around.nd rfl (.inl rfl) (pe_call (ok_effect_then T) (hr.mono (by decide)) (by rfl) T.d_effect_then.g T.d_effect_then.F.kp T.d_effect_then.b .nil pass0 (pa_cons (pe_call (ok_effect_then T) (hr.mono (by decide)) (by rfl) T.d_effect_then.g T.d_effect_then.F.kp T.d_effect_then.b .nil pass0 (pa_cons (pe_call (ok_undone_effect T) (hr.mono (by decide)) (by rfl) T.d_undone_effect.g T.d_undone_effect.F.kp T.d_undone_effect.b .nil pass0 (pa_cons (pv 4) pa_nil)) (pa_cons (pe_ix (kix_tup K) (pv 2) pe_int (fun _ _ => rfl)) pa_nil))) (pa_cons (pv 4) pa_nil))))
    (pss_one (ps_ret (pe_tup (pa_cons (pv 5) (pa_cons (pe_op (kop_catA K) (pe_op (kop_catA K) (pe_tup (pa_cons (pe_tup (pa_cons (pe_tup (pa_cons (pv 3) pa_nil)) (pa_cons (pe_op op_sub (pe_dget hu (pv 1) (pv 3) (fun _ _ => rfl)) pe_int) pa_nil))) pa_nil)) (pe_ix (kix_tup K) (pv 2) pe_int (fun _ _ => rfl))) (pe_tup (pa_cons (pv 3) pa_nil))) pa_nil))))))), ?_⟩
  clear hu hu64 hu2
  walk_at "wp"
  obtain ⟨c1, c2, hc0, hc1, ws, hc2, hc3⟩ := hc
  refine g_two (stT ha) ?_
  walk_at "wp"
  refine ⟨q, n, f, rfl, hq, pf, hn, fun p1 H1 e1 h1 => ?_⟩
  walk_at "wp"
  refine r_ixT (n := 0) (stT (e1 _ _ hc0)) rfl ?_
  walk_at "wp"
  refine ⟨p1, c1, _, _, rfl, h1, e1 _ _ hc1, fun y hy => by rw [pe.len]; exact pf.inv.lt y hy, by rw [pf.inv.len]; exact hn, fun p2 H2 e2 h2 => ?_⟩
  walk_at "wp"
  refine ⟨p2, q, _, _, rfl, h2, e2 _ _ (e1 _ _ hq), fun y hy => by rw [pf.len]; exact (pf.inv.cmp pe).lt y hy, by rw [(pf.inv.cmp pe).len]; exact hn, fun p3 H3 e3 h3 => ?_⟩
  walk_at "wp"
  have e13 := (e1.trans e2).trans e3
  refine al (by walk_at "sz") fun t1 H4 ht1 e4 h4 => ?_
  walk_at "wp"
  obtain ⟨kvs, hk1, hk2⟩ := (hb.ex e13).ex e4
  obtain ⟨R, hR1, hR2⟩ := hk2 x f hx
  refine ⟨_, _, rfl, dget_S hk1 hR1, ?_⟩
  walk_at "wp"
  have hRe : ((R : Nat) : Int) - 1 = ((R - 1 : Nat) : Int) := by have := hR2.pos; omega
  rw [hRe]
  refine al (by walk_at "sz") fun t2 H5 ht2 e5 h5 => ?_
  walk_at "wp"
  refine al (by walk_at "sz") fun t3 H6 ht3 e6 h6 => ?_
  walk_at "wp"
  have e46 := (e4.trans e5).trans e6
  refine r_ixT (n := 1) (stT (e46 _ _ (e13 _ _ hc0))) rfl ?_
  have hw6 := e46 _ _ (e13 _ _ hc2)
  have hwl := hc3.len
  refine r_catT (stT h6) (stT hw6) (by refine small ?_; simp; omega) h6 hw6 fun t4 H7 e7 h7 => ?_
  walk_at "wp"
  refine al (by walk_at "sz") fun t5 H8 ht5 e8 h8 => ?_
  walk_at "wp"
  have h7' := e8 _ _ h7
  refine r_catT (stT h7') (stT h8) (by refine small ?_; simp; omega) h7' h8 fun t6 H9 e9 h9 => ?_
  walk_at "wp"
  refine al (by walk_at "sz") fun t7 HA ht7 eA hA => ?_
  have e79 := ((e7.trans e8).trans e9).trans eA
  have e5A := (e6.trans e79)
  have eall := (e13.trans e46).trans e79
  exact k t7 R HA eall hR2 ⟨p3, t6, hA, e79 _ _ (e46 _ _ h3), _, eA _ _ h9, (Parts.pow (e5A _ _ h5) (e5A _ _ (e5 _ _ h4)) (.nm .nil) (hc3.ei eall.ei)).app (.nm .nil)⟩
def sp_still_quotient : Sp := fun vs H Q _ => ∃ (a b : Addr) (n : Nat) (e f : List Nat) (r s : Row Str), vs = [.ref a, .ref b] ∧ PairAt H a e r ∧ PairAt H b f s ∧ Pm n e ∧ Pm n f ∧ n ≤ 100 ∧ r.items.length ≤ 50000 ∧
  ∀ p R H', Ex H H' → Rnd n f R → PairAt H' p (cmp e (inv f)) (r.app (.pow s (R - 1) .nil)) → Q (.ref p) H'
theorem ok_still_quotient (T : Tx K mg C A FD) : (FnOk P w K mg base CX0 4 (A 36) (FD 36) ["one", "other"] sp_still_quotient) := by
  refine T.d_still_quotient.F.ok sc_still_quotient (fun vs H Q E h => by obtain ⟨a, b, n, e, f, r, s2, rfl, ⟨a1, a2, ha0, ha1, ws, ha2, ha3⟩, ⟨b1, b2, hb0, hb1, us, hb2, hb3⟩, pe, pf, hn, hl, k⟩ := h; rfl) (fun cdv A0 outer s H vs Q E hr h => ?_)
  obtain ⟨a, b, n, e, f, r, s2, rfl, ⟨a1, a2, ha0, ha1, ws, ha2, ha3⟩, ⟨b1, b2, hb0, hb1, us, hb2, hb3⟩, pe, pf, hn, hl, k⟩ := h
  have hu := hu_of hr
  have hu64 := hr.units
  have hu2 : _ + 65 < cLine := (fun {A : Around} {k} (hr : Room k A) => (by have := hr.un; omega : A.units + 65 < cLine)) hr
  refine ⟨_, (pss_cons (ps_set (i := 2) sc_still_quotient.nd rfl (.inl rfl) (pe_call (ok_effect_then T) (hr.mono (by decide)) (by rfl) T.d_effect_then.g T.d_effect_then.F.kp T.d_effect_then.b .nil pass0 (pa_cons (pe_ix (kix_tup K) (pv 0) pe_int (fun _ _ => rfl)) (pa_cons (pe_call (ok_undone_effect T) (hr.mono (by decide)) (by rfl) T.d_undone_effect.g T.d_undone_effect.F.kp T.d_undone_effect.b .nil pass0 (pa_cons (pe_ix (kix_tup K) (pv 1) pe_int (fun _ _ => rfl)) pa_nil)) pa_nil))))
    (pss_one (ps_ret (pe_tup (pa_cons (pv 2) (pa_cons (pe_op (kop_catA K) (pe_ix (kix_tup K) (pv 0) pe_int (fun _ _ => rfl)) (pe_tup (pa_cons (pe_tup (pa_cons (pe_ix (kix_tup K) (pv 1) pe_int (fun _ _ => rfl)) (pa_cons (pe_op op_sub (pe_call (ok_turn_round T) (hr.mono (by decide)) (by rfl) T.d_turn_round.g T.d_turn_round.F.kp T.d_turn_round.b .nil pass0 (pa_cons (pe_ix (kix_tup K) (pv 1) pe_int (fun _ _ => rfl)) pa_nil)) pe_int) pa_nil))) pa_nil))) pa_nil)))))), ?_⟩
  clear hu hu64 hu2
  walk_at "wp"
  refine r_ixT (n := 0) (stT ha0) rfl ?_
  walk_at "wp"
  refine r_ixT (n := 0) (stT hb0) rfl ?_
  walk_at "wp"
  refine ⟨b1, n, f, rfl, hb1, pf, hn, fun p1 H1 e1 h1 => ?_⟩
  walk_at "wp"
  refine ⟨a1, p1, _, _, rfl, e1 _ _ ha1, h1, fun y hy => by rw [pf.inv.len]; exact pe.lt y hy, by rw [pe.len]; exact hn, fun p2 H2 e2 h2 => ?_⟩
  walk_at "wp"
  have e12 := e1.trans e2
  refine r_ixT (n := 1) (stT (e12 _ _ ha0)) rfl ?_
  walk_at "wp"
  refine r_ixT (n := 1) (stT (e12 _ _ hb0)) rfl ?_
  walk_at "wp"
  refine r_ixT (n := 0) (stT (e12 _ _ hb0)) rfl ?_
  walk_at "wp"
  refine ⟨b1, n, f, rfl, e12 _ _ hb1, pf, hn, fun R H3 e3 hR => ?_⟩
  walk_at "wp"
  have hRe : ((R : Nat) : Int) - 1 = ((R - 1 : Nat) : Int) := by have := hR.pos; omega
  rw [hRe]
  refine al (by walk_at "sz") fun t1 H4 ht1 e4 h4 => ?_
  walk_at "wp"
  refine al (by walk_at "sz") fun t2 H5 ht2 e5 h5 => ?_
  have e15 := ((e12.trans e3).trans e4).trans e5
  have hwl := ha3.len
  refine r_catT (stT (e15 _ _ ha2)) (stT h5) (by refine small ?_; simp; omega) (e15 _ _ ha2) h5 fun t3 H6 e6 h6 => ?_
  walk_at "wp"
  refine al (by walk_at "sz") fun t4 H7 ht4 e7 h7 => ?_
  have e57 := (e5.trans e6).trans e7
  have eall := (e15.trans e6).trans e7
  exact k t4 R H7 eall hR ⟨p2, t3, h7, ((((e3.trans e4).trans e5).trans e6).trans e7) _ _ h2, _, e7 _ _ h6, (ha3.ei eall.ei).app (.pow (e57 _ _ h4) (eall _ _ hb2) (hb3.ei eall.ei) .nil)⟩

end
end Eo
namespace Eo
open PySem PyProof.Rows L2 L2.DX
/-! words of the walk: wp goes on where nothing is open; hl looks an object up; ex: what stood stands -/
local macro_rules | `(tactic| walk_at "hl") => `(tactic| first | assumption | exact PlT.sq (by assumption) | (refine stT ?_; walk_at "hl") | (refine stL ?_; walk_at "hl") | (refine Ex.at (by assumption) ?_; walk_at "hl") | (refine Mu.tup (by assumption) ?_; walk_at "hl") | (refine Ex.sqT (by assumption) ?_; walk_at "hl") | (refine Ex.sqL (by assumption) ?_; walk_at "hl") | (refine Ex.plT (by assumption) ?_; walk_at "hl") | (refine Mu.plT (by assumption) ?_; walk_at "hl"))
local macro_rules | `(tactic| walk_at "ex") => `(tactic| first | assumption | exact Ex.refl _ | (refine Ex.trans ?_ (by assumption); walk_at "ex") | (refine Ex.mu ?_ (by assumption) (by first | assumption | walk_at "fr"); walk_at "ex"))
local macro_rules | `(tactic| walk_at "fr") => `(tactic| first | assumption | (refine Ex.free (by assumption) ?_; walk_at "fr"))
local macro_rules | `(tactic| walk_at "rf") => `(tactic| with_unfolding_all rfl)
local macro_rules | `(tactic| walk_at "wp") => `(tactic| repeat (with_reducible first
  | refine q_seq ?_ | refine q_asg ?_ | refine q_ret ?_ | refine q_drop ?_ | refine q_if ?_ | refine q_next ?_ | refine q_par ?_ | refine q_par3 ?_ | refine q_retN ?_ | refine q_cont ?_ | refine q_brk ?_
  | refine e_var (by with_unfolding_all rfl) ?_ | refine e_c ?_ | refine e_op ?_ | refine e_cons ?_ | refine e_nil ?_ | refine e_test ?_ | refine e_B ?_ | refine e_yes ?_ | refine e_cb ?_ | refine e_call ?_ | refine e_then ?_ | refine e_tup ?_ | refine e_lst ?_
  | refine x_bl ?_ | refine i_T ?_ | refine i_F ?_ | refine x_two ?_ | refine x_three ?_
  | refine r_I0 ?_ | refine r_add ?_ | refine r_ip ?_ | refine g_nm ?_ | refine r_eqI ?_ | refine r_neI ?_ | refine r_eq (by with_unfolding_all rfl) ?_ | refine r_ne (by with_unfolding_all rfl) ?_
  | refine e_not ?_ | refine e_and ?_ | refine e_or ?_ | refine e_andV ?_ | refine e_orV ?_ | refine e_notV ?_ | refine e_ifx ?_ | refine e_idxF ?_ | refine e_idxI ?_ | refine e_sl ?_ | refine e_part ?_ | refine e_nopart ?_ | refine f_revA ?_ | refine e_lenSet ?_ | refine l_dcT ?_ | refine e_sadd ?_ | refine q_asgS ?_ | refine q_augS ?_ | refine e_tupRg ?_ | refine e_lstRg ?_ | refine e_rg1 ?_ | refine e_rg2 ?_ | refine e_dget ?_ | refine e_din ?_ | refine e_dnotin ?_ | refine e_dget2 ?_ | refine q_dput ?_ | refine e_un ?_ | refine e_chain ?_ | refine e_bm ?_ | refine e_bm0 ?_ | refine e_fld ?_ | refine q_asgT ?_
  | refine l_any ?_ | refine l_tup ?_ | refine l_list ?_ | refine l_rng1 ?_ | refine l_rng2 ?_ | refine l_str ?_ | refine l_enumL ?_ | refine l_enumT ?_ | refine l_zip ?_ | refine l_zipM ?_
  | refine f_tup ?_ | refine f_list ?_ | refine f_rng1 ?_ | refine f_enumL ?_ | refine f_enumT ?_))
local macro_rules | `(tactic| walk_at "sz") => `(tactic| first | decide | (refine small ?_; simp; done) | (refine small ?_; simp; omega) | (refine smallL ?_; simp; done) | (refine smallL ?_; simp; omega) | (simp; done) | (simp; omega))
section
variable {P : Program} {w : World} {K : PySem.W.Frag} {mg : Str → Option Value} {base : Heap} {C : Addr} {A : Nat → Addr} {FD : Nat → FuncData}
theorem paired_at {α β : Type} {F : α → β → Prop} {xs : List α} {ys : List β} (h : Paired F xs ys) : ∀ {i : Nat} {y : β}, ys[i]? = some y → ∃ x, xs[i]? = some x ∧ F x y := by
  induction h with
  | nil => intro i y e; simp at e
  | cons h t ih =>
    intro i y e
    cases i with
    | zero =>
      simp at e
      subst e
      exact ⟨_, rfl, h⟩
    | succ i => exact ih (by simpa using e)
theorem nms_get {ds : Ds} {i : Nat} {x : Str} (h : (nms ds)[i]? = some x) : ∃ f, ds[i]? = some (x, f) := by
  rw [List.getElem?_map, Option.map_eq_some_iff] at h
  obtain ⟨⟨y, f⟩, h1, rfl⟩ := h
  exact ⟨f, h1⟩
theorem Good.ne {n : Nat} {ds : Ds} (g : Good n ds) {i j : Nat} {x y : Str} {f h : List Nat} (hi : ds[i]? = some (x, f)) (hj : ds[j]? = some (y, h)) (ne : i ≠ j) : x ≠ y := fun e => by
  subst e
  have h1 := (List.getElem?_eq_some_iff.mp hi)
  have h2 := (List.getElem?_eq_some_iff.mp hj)
  refine ne (nd_inj g.apart (by simpa using h1.1) (by simpa using h2.1) ?_)
  simp only [List.getElem_map]
  rw [h1.2, h2.2]
theorem mix_eff {n : Nat} {ds : Ds} (g : Good n ds) {x y : Str} {f h : List Nat} {R S : Nat} (hx : (x, f) ∈ ds) (hy : (y, h) ∈ ds) (hne : x ≠ y) (hR : Rnd n f R) (hS : Rnd n h S) : eff n ds (mixR x y R S).flat = mix f h := (mixR_for g hx hy hne hR hS).eff
def sp_first_mixes (C0 : Addr) : Sp := fun vs H Q _ => ∃ (a : Addr) (n : Nat) (ds : Ds), vs = [.ref a] ∧ Mac C0 H a n ds ∧ Good n ds ∧ ∀ p H' ws ss, H p = none → Ex H H' → H' p = some (.lst ws) → PairsAt H' ws ss → ss.length ≤ 64 → (∀ s ∈ ss, RowFor n ds (2 ^ n) 4 s.1 s.2) →
  (∀ (i j : Nat) (a b : Str × List Nat), i < j → ds[i]? = some a → ds[j]? = some b → mix a.2 b.2 = idn n ∨ mix a.2 b.2 ∈ ss.map (·.1)) → Q (.ref p) H'
/-- what is made of the pairs so far -/
structure Mx (n : Nat) (ds : Ds) (ps : Sts) (D : Nat → Nat → Prop) : Prop where
  nd : (ps.map (·.1)).Nodup
  rows : ∀ s ∈ ps, RowFor n ds (2 ^ n) 4 s.1 s.2
  mixes : ∀ (i j : Nat) (a b : Str × List Nat), i < j → D i j → ds[i]? = some a → ds[j]? = some b → mix a.2 b.2 = idn n ∨ mix a.2 b.2 ∈ ps.map (·.1)
theorem ok_first_mixes (T : Tx K mg C A FD) : (FnOk P w K mg base CX0 9 (A 34) (FD 34) ["machine"] (sp_first_mixes C)) := by
  refine T.d_first_mixes.F.ok sc_first_mixes (fun vs H Q E h => by obtain ⟨a, n, ds, rfl, hm, hg, k⟩ := h; rfl) (fun cdv A0 outer s H vs Q E hr h => ?_)
  obtain ⟨a, n, ds, rfl, hm, hg, k⟩ := h
  have hu := hu_of hr
  have hu64 := hr.units
  have hu2 : _ + 65 < cLine := (fun {A : Around} {k} (hr : Room k A) => (by have := hr.un; omega : A.units + 65 < cLine)) hr
  refine ⟨_, (pss_cons (ps_par3 (i := 1) (j := 2) (l := 3) rfl sc_first_mixes.nd rfl rfl rfl (by decide) (by decide) (by decide) rfl rfl rfl (pa_cons (pe_call (ok_resting_effect T) (hr.mono (by decide)) (by rfl) T.d_resting_effect.g T.d_resting_effect.F.kp T.d_resting_effect.b .nil pass0 (pa_cons (pv 0) pa_nil)) (pa_cons pe_dnewT (pa_cons (kpe_fld K (pv 0)) pa_nil))) rfl)
    (pss_cons (ps_for PassesOwn.never rfl (kpi_enumT K (by rfl) T.z_enumerate (pa_cons (pv 3) pa_nil)) (kpg_tup K (n := 2) (by rfl) (pgs_cons (pg_name (i := 4) sc_first_mixes.nd rfl (by first | exact .inl rfl | exact .inr rfl)) (pgs_cons (pg_name (i := 5) sc_first_mixes.nd rfl (by first | exact .inl rfl | exact .inr rfl)) pgs_nil))) (pss_one (ps_for PassesOwn.never rfl (kpi_tup K (pe_slice (ksl_tupA K) (pv 3) (po_some (pe_op op_add (pv 4) pe_int)) po_none)) (pg_name (i := 6) sc_first_mixes.nd rfl (by first | exact .inl rfl | exact .inr rfl)) (pss_cons (ps_set (i := 7) sc_first_mixes.nd rfl (.inl rfl) (pe_call (ok_mixed_row T) (hr.mono (by decide)) (by rfl) T.d_mixed_row.g T.d_mixed_row.F.kp T.d_mixed_row.b .nil pass0 (pa_cons (pv 0) (pa_cons (pe_tup (pa_cons (pv 5) pa_nil)) (pa_cons (pe_tup (pa_cons (pv 6) pa_nil)) pa_nil)))))
        (pss_cons (ps_set (i := 8) sc_first_mixes.nd rfl (.inl rfl) (pe_call (ok_row_effect T) (hr.mono (by decide)) (by rfl) T.d_row_effect.g T.d_row_effect.F.kp T.d_row_effect.b .nil pass0 (pa_cons (pv 0) (pa_cons (pv 7) pa_nil))))
        (pss_one (ps_if (PW.pt (pw_and (pt_cmpR (kop_neD K hu64) (pv 8) (pv 1) (nomark _)) (pw_and1 (pt_cmp (pc_dnotin hu (pv 8) (pv 2)))))) (pss_one (ps_dput hu (pv 2) (pv 8) (pv 7) rfl)) pss_nil)))))))
    (pss_one (ps_ret (pe_callTy (cr_listItemsT rfl) (by rfl) T.z_list (by decide +kernel) (pa_cons (pe_bm0 PySem.F.plainAttrs_dict PySem.F.slot_dict_items PySem.F.type_dict_items mt_itemsT (pv 2)) pa_nil)))))), ?_⟩
  clear hu hu64 hu2
  walk_at "wp"
  refine ⟨a, n, ds, rfl, hm, by have := hg.few; omega, fun p0 H1 e1 h1 => ?_⟩
  walk_at "wp"
  refine e_dnewT fun d H2 hd e2 h2 => ?_
  walk_at "wp"
  have e12 := e1.trans e2
  obtain ⟨dx, dd, nm, vs, hm1, hm2, hm3, hm4⟩ := hm.ex
  refine ⟨a, C, dx, _, _, rfl, e12 _ _ hm1, T.cl, T.nN, rfl, ?_⟩
  walk_at "wp"
  rw [names_map] at hm4
  have few := hg.few
  have eight := hg.eight
  have hdH : H d = none := e1.free hd
  have hLn : ((nms ds).map V.str).length = ds.length := by simp
  refine ⟨nm, _, rfl, (e12.plT hm4).sq, fr_W walk_enumT (fun i σ H3 => Ex H H3 ∧ ∃ x1 x2 x3 x4 x5 kvs ps, σ = [some (.ref a), some (.ref p0), some (.ref d), some (.ref nm), x1, x2, x3, x4, x5] ∧ H3 p0 = some (.tup (encI (idn n))) ∧ H3 d = some (.dT kvs) ∧ FoundAt H3 kvs ps ∧ Mx n ds ps (fun u _ => u < i) ∧ ps.length ≤ 8 * i)
    ⟨e12, _, _, _, _, _, _, [], rfl, e2 _ _ h1, h2, FoundAt.nil _, ⟨List.nodup_nil, fun s h => nm0 h, fun u v _ _ _ h => absurd h (Nat.not_lt_zero _)⟩, Nat.zero_le _⟩ (fun i σ H3 hi h => (h.1.plT hm4).sq) (fun i x σ H3 H4 hi h y => ?_) (fun σ H3 h => ?_)⟩
  · obtain ⟨e3, x1, x2, x3, x4, x5, kvs, ps, rfl, hp0, hk, hF, hM, hl⟩ := h
    obtain ⟨t, u, v, rfl, hu, hv, ht, e4⟩ := yp_get y
    cases hu
    rw [List.getElem?_map, Option.map_eq_some_iff] at hv
    obtain ⟨x, hx, rfl⟩ := hv
    obtain ⟨f, hxf⟩ := nms_get hx
    have hxm := List.mem_of_getElem? hxf
    refine g_two (stT ht) ?_
    walk_at "wp"
    refine ⟨_, rfl, ?_⟩
    walk_at "wp"
    have e34 := e3.trans e4
    have hi2 : i < ds.length := by rw [← hLn]; exact hi
    refine r_slDrop (i := i + 1) (e34.plT hm4).sq (by omega) (by rw [hLn]; omega) fun sl H5 e5 h5 => ?_
    have e35 := e34.trans e5
    have hsl : (((nms ds).map V.str).drop (i + 1)).length = ds.length - (i + 1) := by rw [List.length_drop, hLn]
    refine ⟨sl, rfl, ⟨_, stT h5⟩, fr_W walk_tup (fun m σ H6 => Ex H H6 ∧ H6 sl = some (.tup (((nms ds).map V.str).drop (i + 1))) ∧ ∃ x3 x4 x5 kvs ps, σ = [some (.ref a), some (.ref p0), some (.ref d), some (.ref nm), some (.int (i : Nat)), some (.str x), x3, x4, x5] ∧ H6 p0 = some (.tup (encI (idn n))) ∧ H6 d = some (.dT kvs) ∧ FoundAt H6 kvs ps ∧ Mx n ds ps (fun u v => u < i ∨ (u = i ∧ v < i + 1 + m)) ∧ ps.length ≤ 8 * i + m)
      ⟨e35, h5, _, _, _, kvs, ps, rfl, e5 _ _ (e4 _ _ hp0), e5 _ _ (e4 _ _ hk), hF.ei (e4.trans e5).ei, ⟨hM.nd, hM.rows, fun u v a b huv h => hM.mixes u v a b huv (by omega)⟩, by omega⟩ (fun m σ H6 hi h => stT h.2.1) (fun m y' σ H6 H7 hm' h y => ?_) (fun σ H6 h => ?_)⟩
    · obtain ⟨e6, hsl6, x3, x4, x5, kvs, ps, rfl, hp0, hk, hF, hM, hl⟩ := h
      obtain ⟨rfl, hy⟩ := y
      rw [List.getElem?_drop, List.getElem?_map, Option.map_eq_some_iff] at hy
      obtain ⟨z, hz, rfl⟩ := hy
      obtain ⟨h', hzf⟩ := nms_get hz
      have hzm := List.mem_of_getElem? hzf
      have hne : x ≠ z := hg.ne (i := i) (j := i + 1 + m) hxf hzf (by omega)
      walk_at "wp"
      refine al (by walk_at "sz") fun u1 H8 hu1 e8 h8 => ?_
      walk_at "wp"
      refine al (by walk_at "sz") fun u2 H9 hu2 e9 h9 => ?_
      walk_at "wp"
      have e69 := (e6.trans e8).trans e9
      refine ⟨a, u1, u2, n, ds, x, z, f, h', rfl, hm.ex' e69, hg, e9 _ _ h8, h9, hxm, hzm, fun rp R S HA eA hR hS hrp => ?_⟩
      walk_at "wp"
      have e6A := e69.trans eA
      have hrow := mixR_for hg hxm hzm hne hR hS
      have pmix : Pm n (mix f h') := mix_pm (hg.perm _ hxm) (hg.perm _ hzm)
      refine ⟨a, rp, n, _, ds, rfl, hm.ex' e6A, hg, hrp, hrow.names, Nat.lt_of_le_of_lt hrow.depth (by decide), fun ep HB eB hep => ?_⟩
      rw [hrow.eff] at hep
      walk_at "wp"
      have e8B := ((e8.trans e9).trans eA).trans eB
      refine r_neT (stT hep) (stT (e8B _ _ hp0)) ?_
      walk_at "wp"
      have hkB := e8B _ _ hk
      have hFB := hF.ei e8B.ei
      have next : ∀ (ps' : Sts), (ps'.map (·.1)).Nodup → (∀ s ∈ ps', RowFor n ds (2 ^ n) 4 s.1 s.2) → (∀ e, e ∈ ps.map (·.1) → e ∈ ps'.map (·.1)) → (mix f h' = idn n ∨ mix f h' ∈ ps'.map (·.1)) → Mx n ds ps' (fun u v => u < i ∨ (u = i ∧ v < i + 1 + (m + 1))) := fun ps' n1 n2 n3 n4 => ⟨n1, n2, fun u v p q huv hD hp hq => by
        by_cases hh : u < i ∨ (u = i ∧ v < i + 1 + m)
        · rcases hM.mixes u v p q huv hh hp hq with r | r
          · exact .inl r
          · exact .inr (n3 _ r)
        · have hu' : u = i := by omega
          have hv' : v = i + 1 + m := by omega
          subst hu'
          subst hv'
          rw [hxf] at hp
          rw [hzf] at hq
          cases hp
          cases hq
          exact n4⟩
      refine i_n (fun hne2 => ?_) (fun heq => ?_)
      · walk_at "wp"
        have hdg : DGet HB d (.ref ep) (valV kvs (encK (mix f h'))) := DGet.t hkB (by rw [encK_V]; exact hep)
        refine ⟨d, _, rfl, hdg, ?_⟩
        by_cases hin : mix f h' ∈ ps.map (·.1)
        · obtain ⟨j, hj, e0⟩ := List.getElem_of_mem hin
          rw [List.length_map] at hj
          rw [List.getElem_map] at e0
          obtain ⟨w1, hw1, _⟩ := hF.some hM.nd (i := j) (e := mix f h') (r := (ps[j]).2) (by rw [List.getElem?_eq_getElem hj, ← e0])
          rw [hw1]
          walk_at "wp"
          refine ⟨e6A.trans eB, e8B _ _ hsl6, _, _, _, kvs, ps, rfl, e8B _ _ hp0, hkB, hFB, next ps hM.nd hM.rows (fun _ h => h) (.inr hin), by omega⟩
        · rw [hF.none hin]
          walk_at "wp"
          have hput := hFB.put hin (hrp.ex eB)
          have hlen : kvs.length < sizeLine := smallL (by rw [hF.1]; omega)
          refine i_T ?_
          walk_at "wp"
          refine ⟨d, _, rfl, DPut.t (k := encK (mix f h')) hkB (by rw [encK_V]; exact hep) hlen, ?_⟩
          have mD : Mu d HB (upd HB d (.dT (putK kvs (encK (mix f h')) (.ref rp)))) := Mu.of hkB rfl
          refine ⟨(e6A.trans eB).mu mD hdH, mD.tup (e8B _ _ hsl6), _, _, _, _, ps ++ [(mix f h', mixR x z R S)], rfl, mD.tup (e8B _ _ hp0), upd_same, hput.ei mD.ei, next _ ?_ ?_ (fun e h => by rw [List.map_append]; exact List.mem_append_left _ h) (.inr (by rw [List.map_append]; exact List.mem_append_right _ (by simp))), by rw [List.length_append, List.length_singleton]; omega⟩
          · rw [List.map_append, List.nodup_append]
            exact ⟨hM.nd, by simp, fun e1 h1 e2 h2 e => by simp at h2; subst h2; subst e; exact hin h1⟩
          · intro s hs
            rcases List.mem_append.mp hs with hs | hs
            · exact hM.rows s hs
            · rw [List.mem_singleton] at hs
              subst hs
              exact hrow
      · walk_at "wp"
        refine ⟨e6A.trans eB, e8B _ _ hsl6, _, _, _, kvs, ps, rfl, e8B _ _ hp0, hkB, hFB, next ps hM.nd hM.rows (fun _ h => h) (.inl heq), by omega⟩
    · obtain ⟨e6, hsl6, x3, x4, x5, kvs, ps, rfl, hp0, hk, hF, hM, hl⟩ := h
      rw [hsl] at hM hl
      refine ⟨e6, _, _, _, _, _, kvs, ps, rfl, hp0, hk, hF, ⟨hM.nd, hM.rows, fun u v p q huv hD hp hq => hM.mixes u v p q huv ?_ hp hq⟩, by omega⟩
      have := (List.getElem?_eq_some_iff.mp hq).1
      omega
  · obtain ⟨e3, x1, x2, x3, x4, x5, kvs, ps, rfl, hp0, hk, hF, hM, hl⟩ := h
    rw [hLn] at hM hl
    walk_at "wp"
    refine ⟨.inr (.inr (.inl ⟨rfl, .inr ⟨kvs, hk⟩⟩)), ?_⟩
    refine ⟨d, kvs, rfl, rfl, hk, fun vp hvp => ?_⟩
    walk_at "wp"
    have ev := Ex.new (o := itemsO vp d) hvp
    refine ⟨vp, d, kvs, rfl, upd_same, ev _ _ hk, fun H5 l ts hkeep hl0 hl5 hpair => ?_⟩
    have e35 : Ex H3 H5 := ev.trans hkeep
    refine k l H5 _ ps ((e3.trans ev).free hl0) (e3.trans e35) hl5 ⟨?_, fun i e r hi => ?_⟩ (by omega) hM.rows fun i j p q hij hp hq => hM.mixes i j p q hij (List.getElem?_eq_some_iff.mp hp).1 hp hq
    · rw [List.length_map, hpair.length, hF.1]
    · obtain ⟨p, h1, h2⟩ := hF.2 i e r hi
      obtain ⟨t, ht, b, hb1, hb2⟩ := paired_at hpair h1
      refine ⟨t, by rw [List.getElem?_map, ht]; rfl, b, p, hb1, ?_, h2.ex e35⟩
      have hb3 := hkeep _ _ hb2
      rw [encK_V] at hb3
      exact hb3

end
end Eo
namespace Eo
open PySem PyProof.Rows L2 L2.DX
/-! words of the walk: wp goes on where nothing is open; hl looks an object up; ex: what stood stands -/
local macro_rules | `(tactic| walk_at "hl") => `(tactic| first | assumption | exact PlT.sq (by assumption) | (refine stT ?_; walk_at "hl") | (refine stL ?_; walk_at "hl") | (refine Ex.at (by assumption) ?_; walk_at "hl") | (refine Mu.tup (by assumption) ?_; walk_at "hl") | (refine Ex.sqT (by assumption) ?_; walk_at "hl") | (refine Ex.sqL (by assumption) ?_; walk_at "hl") | (refine Ex.plT (by assumption) ?_; walk_at "hl") | (refine Mu.plT (by assumption) ?_; walk_at "hl"))
local macro_rules | `(tactic| walk_at "ex") => `(tactic| first | assumption | exact Ex.refl _ | (refine Ex.trans ?_ (by assumption); walk_at "ex") | (refine Ex.mu ?_ (by assumption) (by first | assumption | walk_at "fr"); walk_at "ex"))
local macro_rules | `(tactic| walk_at "fr") => `(tactic| first | assumption | (refine Ex.free (by assumption) ?_; walk_at "fr"))
local macro_rules | `(tactic| walk_at "rf") => `(tactic| with_unfolding_all rfl)
local macro_rules | `(tactic| walk_at "wp") => `(tactic| repeat (with_reducible first
  | refine q_seq ?_ | refine q_asg ?_ | refine q_ret ?_ | refine q_drop ?_ | refine q_if ?_ | refine q_next ?_ | refine q_par ?_ | refine q_par3 ?_ | refine q_retN ?_ | refine q_cont ?_ | refine q_brk ?_
  | refine e_var (by with_unfolding_all rfl) ?_ | refine e_c ?_ | refine e_op ?_ | refine e_cons ?_ | refine e_nil ?_ | refine e_test ?_ | refine e_B ?_ | refine e_yes ?_ | refine e_cb ?_ | refine e_call ?_ | refine e_then ?_ | refine e_tup ?_ | refine e_lst ?_
  | refine x_bl ?_ | refine i_T ?_ | refine i_F ?_ | refine x_two ?_ | refine x_three ?_
  | refine r_I0 ?_ | refine r_add ?_ | refine r_ip ?_ | refine g_nm ?_ | refine r_eqI ?_ | refine r_neI ?_ | refine r_eq (by with_unfolding_all rfl) ?_ | refine r_ne (by with_unfolding_all rfl) ?_
  | refine e_not ?_ | refine e_and ?_ | refine e_or ?_ | refine e_andV ?_ | refine e_orV ?_ | refine e_notV ?_ | refine e_ifx ?_ | refine e_idxF ?_ | refine e_idxI ?_ | refine e_sl ?_ | refine e_part ?_ | refine e_nopart ?_ | refine f_revA ?_ | refine e_lenSet ?_ | refine l_dcT ?_ | refine e_sadd ?_ | refine q_asgS ?_ | refine q_augS ?_ | refine e_tupRg ?_ | refine e_lstRg ?_ | refine e_rg1 ?_ | refine e_rg2 ?_ | refine e_dget ?_ | refine e_din ?_ | refine e_dnotin ?_ | refine e_dget2 ?_ | refine q_dput ?_ | refine e_un ?_ | refine e_chain ?_ | refine e_bm ?_ | refine e_bm0 ?_ | refine e_fld ?_ | refine q_asgT ?_
  | refine l_any ?_ | refine l_tup ?_ | refine l_list ?_ | refine l_rng1 ?_ | refine l_rng2 ?_ | refine l_str ?_ | refine l_enumL ?_ | refine l_enumT ?_ | refine l_zip ?_ | refine l_zipM ?_
  | refine f_tup ?_ | refine f_list ?_ | refine f_rng1 ?_ | refine f_enumL ?_ | refine f_enumT ?_))
local macro_rules | `(tactic| walk_at "sz") => `(tactic| first | decide | (refine small ?_; simp; done) | (refine small ?_; simp; omega) | (refine smallL ?_; simp; done) | (refine smallL ?_; simp; omega) | (simp; done) | (simp; omega))
section
variable {P : Program} {w : World} {K : PySem.W.Frag} {mg : Str → Option Value} {base : Heap} {C : Addr} {A : Nat → Addr} {FD : Nat → FuncData}
/-- the queue -/
structure QI (n : Nat) (ds : Ds) (S qs : Sts) (M L : Nat) : Prop where
  first : qs[0]? = some (idn n, .nil)
  starts : (qs.map fun q => ap q.1 0).Nodup
  rows : ∀ (j : Nat) (e : List Nat) (r : Row Str), qs[j]? = some (e, r) → RowFor n ds (M * j) (L * j) e r
  fix : ∀ q ∈ qs, q.1 ≠ idn n → ∀ s, s < n → ap q.1 s ≠ s
  gen : ∀ q ∈ qs, Gen n (S.map (·.1)) q.1
theorem QI.pm {n : Nat} {ds : Ds} {S qs : Sts} {M L : Nat} (g : Good n ds) (h : QI n ds S qs M L) {q : List Nat × Row Str} (hq : q ∈ qs) : Pm n q.1 := by
  obtain ⟨j, hj, e⟩ := List.getElem_of_mem hq
  have := h.rows j q.1 q.2 (by rw [List.getElem?_eq_getElem hj, e])
  rw [← this.eff]
  exact eff_pm g.perm _
theorem QI.le {n : Nat} {ds : Ds} {S qs : Sts} {M L : Nat} (g : Good n ds) (h : QI n ds S qs M L) : qs.length ≤ n := by
  have := nodup_lt_len (n := n) h.starts fun x hx => by
    obtain ⟨q, hq, rfl⟩ := List.mem_map.mp hx
    exact (h.pm g hq).ap_lt (by have := g.two; omega)
  rwa [List.length_map] at this
theorem QI.nd {n : Nat} {ds : Ds} {S qs : Sts} {M L : Nat} (h : QI n ds S qs M L) : (qs.map (·.1)).Nodup := by
  have h2 : (qs.map fun q => ap q.1 0) = (qs.map (·.1)).map (fun e => ap e 0) := by rw [List.map_map]; rfl
  have h3 := h.starts
  rw [h2] at h3
  have aux : ∀ l : List (List Nat), (l.map fun e => ap e 0).Nodup → l.Nodup := by
    intro l
    induction l with
    | nil => exact fun _ => List.nodup_nil
    | cons x l ih =>
      intro h
      rw [List.map_cons, List.nodup_cons] at h
      exact List.nodup_cons.mpr ⟨fun m => h.1 (List.mem_map.mpr ⟨x, m, rfl⟩), ih h.2⟩
  exact aux _ h3
/-- what has been tried -/
def Shut (S qs : Sts) (u v : Nat) : Prop := ∀ (j k : Nat) (q s : List Nat × Row Str), qs[j]? = some q → S[k]? = some s → (j < u ∨ (j = u ∧ k < v)) → cmp q.1 s.1 ∈ qs.map (·.1)
theorem snoc_old {α : Type} {l : List α} {x y : α} {i : Nat} (h : (l ++ [x])[i]? = some y) (hi : i < l.length) : l[i]? = some y := by rwa [List.getElem?_append_left hi] at h
theorem QI.snoc {n : Nat} {ds : Ds} (g : Good n ds) {S qs : Sts} {M L : Nat} (h : QI n ds S qs M L) {j : Nat} {e s : List Nat} {r t : Row Str} (hq : qs[j]? = some (e, r)) (hS : (s, t) ∈ S) (hr : RowFor n ds M L s t)
    (hst : ap (cmp e s) 0 ∉ qs.map fun q => ap q.1 0) (hfx : ∀ x, x < n → ap (cmp e s) x ≠ x) : QI n ds S (qs ++ [(cmp e s, r.app t)]) M L := by
  have hj := (List.getElem?_eq_some_iff.mp hq).1
  have h0 := (List.getElem?_eq_some_iff.mp h.first).1
  refine ⟨by rw [List.getElem?_append_left h0]; exact h.first, ?_, fun i e2 r2 hi => ?_, fun q hq2 => ?_, fun q hq2 => ?_⟩
  · rw [List.map_append, List.nodup_append]
    exact ⟨h.starts, by simp, fun x hx y hy e => by simp at hy; subst hy; subst e; exact hst hx⟩
  · rcases snoc_get hi with ⟨hi2, hi'⟩ | ⟨rfl, hi'⟩
    · exact h.rows i e2 r2 hi'
    · cases hi'
      have := (h.rows j e r hq).app g.perm hr
      have e1 : j + 1 ≤ qs.length := hj
      refine this.mono ?_ ?_
      · rw [← Nat.mul_succ]; exact Nat.mul_le_mul (Nat.le_refl M) e1
      · rw [← Nat.mul_succ]; exact Nat.mul_le_mul (Nat.le_refl L) e1
  · rcases List.mem_append.mp hq2 with hq2 | hq2
    · exact h.fix q hq2
    · rw [List.mem_singleton] at hq2
      subst hq2
      exact fun _ => hfx
  · rcases List.mem_append.mp hq2 with hq2 | hq2
    · exact h.gen q hq2
    · rw [List.mem_singleton] at hq2
      subst hq2
      exact .step (h.gen _ (List.mem_of_getElem? hq)) (List.mem_map.mpr ⟨_, hS, rfl⟩)
theorem Shut.more {S qs : Sts} {x : List Nat × Row Str} {u v : Nat} (h : Shut S qs u v) (hu : u < qs.length) : Shut S (qs ++ [x]) u v := fun j k q s hj hk hd => by
  rw [List.map_append]
  exact List.mem_append_left _ (h j k q s (snoc_old hj (by omega)) hk hd)
theorem Shut.step {S qs : Sts} {u v : Nat} {q s : List Nat × Row Str} (h : Shut S qs u v) (hq : qs[u]? = some q) (hs : S[v]? = some s) (hm : cmp q.1 s.1 ∈ qs.map (·.1)) : Shut S qs u (v + 1) := fun j k q' s' hj hk hd => by
  by_cases hh : j < u ∨ (j = u ∧ k < v)
  · exact h j k q' s' hj hk hh
  · have e1 : j = u := by omega
    have e2 : k = v := by omega
    subst e1
    subst e2
    rw [hq] at hj
    rw [hs] at hk
    cases hj
    cases hk
    exact hm
/-- what steps make is in the queue -/
theorem QI.all {n : Nat} {ds : Ds} {S qs : Sts} {M L : Nat} (h : QI n ds S qs M L) (hs : Shut S qs qs.length 0) {e : List Nat} : Gen n (S.map (·.1)) e ↔ e ∈ qs.map (·.1) := by
  constructor
  · intro g
    induction g with
    | id => exact List.mem_map.mpr ⟨_, List.mem_of_getElem? h.first, rfl⟩
    | step _ hm ih =>
      obtain ⟨q, hq, rfl⟩ := List.mem_map.mp ih
      obtain ⟨s, hs2, rfl⟩ := List.mem_map.mp hm
      obtain ⟨j, hj, e1⟩ := List.getElem_of_mem hq
      obtain ⟨k, hk, e2⟩ := List.getElem_of_mem hs2
      exact hs j k q s (by rw [List.getElem?_eq_getElem hj, e1]) (by rw [List.getElem?_eq_getElem hk, e2]) (.inl hj)
  · intro m
    obtain ⟨q, hq, rfl⟩ := List.mem_map.mp m
    exact h.gen q hq
/-- the starts' dict -/
def StAt (H : Hp) (kvs : List (Key × V)) (qs : Sts) : Prop := ∀ x : Nat, (valV kvs (Sum.inl (x : Int)) = none ∧ x ∉ qs.map fun q => ap q.1 0) ∨ ∃ (j : Nat) (e : List Nat) (r : Row Str) (p : Addr), qs[j]? = some (e, r) ∧ ap e 0 = x ∧ valV kvs (Sum.inl (x : Int)) = some (.ref p) ∧ PairAt H p e r
theorem StAt.ei {H H' : Hp} {kvs : List (Key × V)} {qs : Sts} (h : StAt H kvs qs) (e : EI H H') : StAt H' kvs qs := fun x => (h x).imp id fun ⟨j, f, r, p, h1, h2, h3, h4⟩ => ⟨j, f, r, p, h1, h2, h3, h4.ei e⟩
theorem StAt.put {H : Hp} {kvs : List (Key × V)} {qs : Sts} {p : Addr} {e : List Nat} {r : Row Str} (h : StAt H kvs qs) (hn : ap e 0 ∉ qs.map fun q => ap q.1 0) (hp : PairAt H p e r) : StAt H (putK kvs (Sum.inl ((ap e 0 : Nat) : Int)) (.ref p)) (qs ++ [(e, r)]) := fun x => by
  rw [valV_put]
  by_cases hx : x = ap e 0
  · subst hx
    refine .inr ⟨qs.length, e, r, p, snoc_last _ _, rfl, if_pos rfl, hp⟩
  · have hne : ¬ ((Sum.inl ((x : Nat) : Int) : Key) = Sum.inl ((ap e 0 : Nat) : Int)) := fun e2 => by
      have := Sum.inl.inj e2
      omega
    rw [if_neg hne]
    rcases h x with ⟨h1, h2⟩ | ⟨j, f, s, q, h1, h2, h3, h4⟩
    · refine .inl ⟨h1, fun m => ?_⟩
      rw [List.map_append] at m
      rcases List.mem_append.mp m with m | m
      · exact h2 m
      · simp at m
        exact hx m
    · exact .inr ⟨j, f, s, q, by rw [List.getElem?_append_left (List.getElem?_eq_some_iff.mp h1).1]; exact h1, h2, h3, h4⟩
theorem ne_obj {H : Hp} {a b : Addr} {o u : HO} (h : H a = some o) (h' : H b = some u) (d : o ≠ u) : a ≠ b := fun e => by
  rw [e, h'] at h
  exact d (Option.some.inj h).symm
theorem e_pairs1 {tk tv : TE} {σ : L2.St} {H : Hp} {R : List (V × V) → Hp → Prop} (k : tk σ H fun x H1 => tv σ H1 fun y H2 => R [(x, y)] H2) : tPairs [(tk, tv)] σ H R := k
def endB (n M : Nat) : Nat := M * n + 2 ^ n * (M * n)
def sp_listed_mixes (C0 : Addr) : Sp := fun vs H Q _ => ∃ (a b : Addr) (n : Nat) (ds : Ds) (ws : List V) (S : Sts) (M L : Nat), vs = [.ref a, .ref b] ∧ Mac C0 H a n ds ∧ Good n ds ∧ H b = some (.lst ws) ∧ PairsAt H ws S ∧ (∀ s ∈ S, RowFor n ds M L s.1 s.2) ∧ L ≤ 500 ∧
  (∀ p d H' kvs qs, Ex H H' → H' p = some (.tup [.ref d, .non]) → H d = none → H' d = some (.dT kvs) → FoundAt H' kvs qs → QI n ds S qs M L → Shut S qs qs.length 0 → Q (.ref p) H') ∧
  (∀ p q H' e r s, Ex H H' → H' p = some (.tup [.non, .ref q]) → PairAt H' q e r → RowEnd n ds (endB n M) 50000 e r → e ≠ idn n → s < n → ap e s = s → Q (.ref p) H')
theorem ok_listed_mixes (T : Tx K mg C A FD) : (FnOk P w K mg base CX0 5 (A 37) (FD 37) ["machine", "steps"] (sp_listed_mixes C)) := by
  refine T.d_listed_mixes.F.ok sc_listed_mixes (fun vs H Q E h => by obtain ⟨a, b, n, ds, ws, S, M, L, rfl, hm, hg, hb, hS, hrow, hL, kA, kB⟩ := h; rfl) (fun cdv A0 outer s H vs Q E hr h => ?_)
  obtain ⟨a, b, n, ds, ws, S, M, L, rfl, hm, hg, hb, hS, hrow, hL, kA, kB⟩ := h
  have hu := hu_of hr
  have hu64 := hr.units
  have hu2 : _ + 65 < cLine := (fun {A : Around} {k} (hr : Room k A) => (by have := hr.un; omega : A.units + 65 < cLine)) hr
  refine ⟨_, (pss_cons (ps_set (i := 2) sc_listed_mixes.nd rfl (.inl rfl) (pe_call (ok_resting_effect T) (hr.mono (by decide)) (by rfl) T.d_resting_effect.g T.d_resting_effect.F.kp T.d_resting_effect.b .nil pass0 (pa_cons (pv 0) pa_nil)))
    (pss_cons (ps_par3 (i := 3) (j := 4) (l := 5) rfl sc_listed_mixes.nd rfl rfl rfl (by decide) (by decide) (by decide) rfl rfl rfl (pa_cons (pe_disp1T hu (pv 2) (pe_tup pa_nil)) (pa_cons (pe_disp (pps_cons pe_int (pe_tup (pa_cons (pv 2) (pa_cons (pe_tup pa_nil) pa_nil))) pps_nil) (by rfl) (by rfl) (fun z => by cases z) (by decide)) (pa_cons (pe_lst (pa_cons (pe_tup (pa_cons (pv 2) (pa_cons (pe_tup pa_nil) pa_nil))) pa_nil)) pa_nil))) rfl)
    (pss_cons (ps_set (i := 6) sc_listed_mixes.nd rfl (.inl rfl) pe_int)
    (pss_cons (ps_while PassesOwn.never (pt_cmpR op_lt (pv 6) (pe_callB (kcall_len K) (by rfl) T.z_len (by decide +kernel) (pa_cons (pv 5) pa_nil)) (nomark _)) (pss_cons (ps_asg (pe_ix (kix_list K) (pv 5) (pv 6) (fun _ _ => rfl)) (kpg_tup K (n := 2) (by rfl) (pgs_cons (pg_name (i := 7) sc_listed_mixes.nd rfl (by first | exact .inl rfl | exact .inr rfl)) (pgs_cons (pg_name (i := 8) sc_listed_mixes.nd rfl (by first | exact .inl rfl | exact .inr rfl)) pgs_nil))))
      (pss_cons (ps_aug (i := 6) sc_listed_mixes.nd rfl (.inl rfl) pe_int ip_add)
      (pss_one (ps_for PassesOwn.never rfl (kpi_list K (pv 1)) (kpg_tup K (n := 2) (by rfl) (pgs_cons (pg_name (i := 9) sc_listed_mixes.nd rfl (by first | exact .inl rfl | exact .inr rfl)) (pgs_cons (pg_name (i := 10) sc_listed_mixes.nd rfl (by first | exact .inl rfl | exact .inr rfl)) pgs_nil))) (pss_cons (ps_set (i := 11) sc_listed_mixes.nd rfl (.inl rfl) (pe_tup (pa_cons (pe_call (ok_effect_then T) (hr.mono (by decide)) (by rfl) T.d_effect_then.g T.d_effect_then.F.kp T.d_effect_then.b .nil pass0 (pa_cons (pv 7) (pa_cons (pv 9) pa_nil))) (pa_cons (pe_op (kop_catA K) (pv 8) (pv 10)) pa_nil))))
        (pss_cons (ps_if (pt_cmp (pc_din hu (pe_ix (kix_tup K) (pv 11) pe_int (fun _ _ => rfl)) (pv 3))) (pss_one ps_continue) pss_nil)
        (pss_cons (ps_if (pt_cmpR op_notN (pe_call (ok_first_still T) (hr.mono (by decide)) (by rfl) T.d_first_still.g T.d_first_still.F.kp T.d_first_still.b .nil pass0 (pa_cons (pe_ix (kix_tup K) (pv 11) pe_int (fun _ _ => rfl)) pa_nil)) pe_non (nomark _)) (pss_one (ps_ret (pe_tup (pa_cons pe_non (pa_cons (pv 11) pa_nil))))) pss_nil)
        (pss_cons (ps_if (pt_cmp (pc_din hu (pe_ix (kix_tup K) (pe_ix (kix_tup K) (pv 11) pe_int (fun _ _ => rfl)) pe_int (fun _ _ => rfl)) (pv 4))) (pss_one (ps_ret (pe_tup (pa_cons pe_non (pa_cons (pe_call (ok_still_quotient T) (hr.mono (by decide)) (by rfl) T.d_still_quotient.g T.d_still_quotient.F.kp T.d_still_quotient.b .nil pass0 (pa_cons (pv 11) (pa_cons (pe_dget hu (pv 4) (pe_ix (kix_tup K) (pe_ix (kix_tup K) (pv 11) pe_int (fun _ _ => rfl)) pe_int (fun _ _ => rfl)) (fun _ _ => rfl)) pa_nil))) pa_nil))))) pss_nil)
        (pss_cons (ps_dput hu (pv 3) (pe_ix (kix_tup K) (pv 11) pe_int (fun _ _ => rfl)) (pe_ix (kix_tup K) (pv 11) pe_int (fun _ _ => rfl)) rfl)
        (pss_cons (ps_dput hu (pv 4) (pe_ix (kix_tup K) (pe_ix (kix_tup K) (pv 11) pe_int (fun _ _ => rfl)) pe_int (fun _ _ => rfl)) (pv 11) rfl)
        (pss_one (ps_expr (kpe_bm K PySem.F.plainAttrs_list PySem.F.slot_list_append PySem.F.type_list_append mt_append (pv 5) (pa_cons (pv 11) pa_nil)))))))))))))))
    (pss_one (ps_ret (pe_tup (pa_cons (pv 3) (pa_cons pe_non pa_nil))))))))), ?_⟩
  clear hu hu64 hu2
  walk_at "wp"
  have few := hg.few
  have two := hg.two
  refine ⟨a, n, ds, rfl, hm, by omega, fun p0 H1 e1 h1 => ?_⟩
  walk_at "wp"
  intro d hd
  refine e_pairs1 ?_
  walk_at "wp"
  have e2 : Ex H1 (upd H1 d (.dT [])) := Ex.new hd
  refine al (by walk_at "sz") fun t0 H3 ht0 e3 h3 => ?_
  have d3 : H3 d = some (.dT []) := e3 _ _ upd_same
  refine ⟨encK (idn n), p0, .ref t0, rfl, by rw [encK_V]; exact e3 _ _ (e2 _ _ h1), d3, ?_⟩
  generalize hH4 : upd H3 d (.dT [(encK (idn n), V.ref t0)]) = H4
  have m4 : Mu d H3 H4 := by rw [← hH4]; exact Mu.of d3 rfl
  have d4 : H4 d = some (.dT [(encK (idn n), V.ref t0)]) := by rw [← hH4]; exact upd_same
  have hdH : H d = none := e1.free hd
  have e4 : Ex H H4 := ((e1.trans e2).trans e3).mu m4 hdH
  have p04 : H4 p0 = some (.tup (encI (idn n))) := m4.tup (e3 _ _ (e2 _ _ h1))
  have t04 := m4.tup h3
  clear hH4
  walk_at "wp"
  intro st hst
  refine e_pairs1 ?_
  walk_at "wp"
  have e5 : Ex H4 (upd H4 st (.dK [])) := Ex.new hst
  refine al (by walk_at "sz") fun t1 H6 ht1 e6 h6 => ?_
  walk_at "wp"
  refine al (by walk_at "sz") fun t2 H7 ht2 e7 h7 => ?_
  have s7 : H7 st = some (.dK []) := e7 _ _ (e6 _ _ upd_same)
  refine ⟨s7, [(Sum.inl 0, .ref t2)], rfl, by walk_at "sz", ?_⟩
  generalize hH8 : upd H7 st (.dK (mergeK [] [(Sum.inl 0, V.ref t2)])) = H8
  have m8 : Mu st H7 H8 := by rw [← hH8]; exact Mu.of s7 rfl
  have s8 : H8 st = some (.dK [(Sum.inl 0, V.ref t2)]) := by rw [← hH8]; exact upd_same
  have hstH : H st = none := e4.free hst
  have e48 : Ex H4 H8 := ((e5.trans e6).trans e7).mu m8 hst
  clear hH8
  walk_at "wp"
  refine al (by walk_at "sz") fun t3 H9 ht3 e9 h9 => ?_
  walk_at "wp"
  refine al (by walk_at "sz") fun t4 HA ht4 eA hA => ?_
  walk_at "wp"
  refine al (by walk_at "sz") fun q HB hq eB hB => ?_
  walk_at "wp"
  have e8B := (e9.trans eA).trans eB
  have e4B := e48.trans e8B
  have hqH : H q = none := e4.free (e48.free (e9.free (eA.free hq)))
  have dB := e4B _ _ d4
  have sB := e8B _ _ s8
  have hp2 : PairAt HB t2 (idn n) .nil := ⟨p0, t1, e8B _ _ (m8.tup h7), e4B _ _ p04, Rw.nil (e8B _ _ (m8.tup (e7 _ _ h6)))⟩
  have hp4 : PairAt HB t4 (idn n) .nil := ⟨p0, t3, eB _ _ hA, e4B _ _ p04, Rw.nil (eB _ _ (eA _ _ h9))⟩
  have hmd : d ≠ st := ne_obj dB sB (fun e => nomatch e)
  have hmq : d ≠ q := ne_obj dB hB (fun e => nomatch e)
  have hsq : st ≠ q := ne_obj sB hB (fun e => nomatch e)
  have ap0 : ap (idn n) 0 = 0 := ap_idn (by omega)
  refine w_W (fun w0 σ H1 => Ex H H1 ∧ ∃ (at' : Nat) (x7 x8 x9 x10 x11 : Option V) (kvs : List (List Key × V)) (skvs : List (Key × V)) (vs : List V) (qs : Sts), σ = [some (.ref a), some (.ref b), some (.ref p0), some (.ref d), some (.ref st), some (.ref q), some (.int (at' : Nat)), x7, x8, x9, x10, x11] ∧ H1 p0 = some (.tup (encI (idn n))) ∧ H1 d = some (.dT kvs) ∧ H1 st = some (.dK skvs) ∧ H1 q = some (.lst vs) ∧
      FoundAt H1 kvs qs ∧ StAt H1 skvs qs ∧ PairsAt H1 vs qs ∧ QI n ds S qs M L ∧ skvs.length ≤ qs.length ∧ Shut S qs at' 0 ∧ at' ≤ qs.length ∧ w0 + at' = n + 1) (n + 1)
    ⟨e4.trans e4B, 0, _, _, _, _, _, _, _, _, [(idn n, .nil)], rfl, e4B _ _ p04, dB, sB, hB, ?_, ?_, (PairsAt.nil HB).snoc hp4, ?_, Nat.le_refl _, fun j k q s _ _ h => by omega, Nat.zero_le _, rfl⟩ (fun w0 σ H1 h => ?_)
  · refine ⟨rfl, fun i e r hi => ?_⟩
    cases i with
    | zero =>
      cases hi
      exact ⟨t0, rfl, Rw.nil (e4B _ _ t04)⟩
    | succ i => simp at hi
  · intro x
    by_cases hx : x = 0
    · subst hx
      exact .inr ⟨0, idn n, .nil, t2, rfl, ap0, valV_pos rfl, hp2⟩
    · refine .inl ⟨?_, fun m => ?_⟩
      · rw [valV_neg (fun e => hx (by have := Sum.inl.inj e; omega))]
        rfl
      · simp [ap0] at m
        exact hx m
  · refine ⟨rfl, by simp, fun j e r hj => ?_, fun q hq hne => ?_, fun q hq => ?_⟩
    · cases j with
      | zero =>
        cases hj
        exact (RowFor.nil n ds).mono (Nat.zero_le _) (Nat.zero_le _)
      | succ j => simp at hj
    · rw [List.mem_singleton] at hq
      subst hq
      exact absurd rfl hne
    · rw [List.mem_singleton] at hq
      subst hq
      exact .id
  obtain ⟨eH, at', x7, x8, x9, x10, x11, kvs, skvs, vs, qs, rfl, hp0, hd1, hst1, hq1, hF, hT, hP, hQ, hsl, hSh, hat, hw⟩ := h
  have hle := hQ.le hg
  walk_at "wp"
  refine r_lenL (stL hq1) ?_
  rw [hP.1]
  walk_at "wp"
  refine i_d (fun hlt => w_N ?_) (fun hlt => ?_)
  · have hat2 : at' < qs.length := by omega
    obtain ⟨e, r, hqe⟩ : ∃ e r, qs[at']? = some (e, r) := ⟨_, _, List.getElem?_eq_getElem hat2⟩
    obtain ⟨qp, hv, qe0, qr0, hpp, hqe1, hqr1⟩ := hP.2 at' e r hqe
    walk_at "wp"
    refine r_ixL (n := at') (stL hq1) (atI_ok hv) ?_
    refine g_two (stT hpp) ?_
    walk_at "wp"
    refine ⟨_, rfl, ?_⟩
    walk_at "wp"
    refine ⟨b, rfl, ⟨_, stL (eH _ _ hb)⟩, fr_W walk_list (fun i σ H2 => Ex H H2 ∧ ∃ (x9 x10 x11 : Option V) (kvs : List (List Key × V)) (skvs : List (Key × V)) (vs : List V) (qs : Sts), σ = [some (.ref a), some (.ref b), some (.ref p0), some (.ref d), some (.ref st), some (.ref q), some (.int ((at' : Nat) + 1)), some (.ref qe0), some (.ref qr0), x9, x10, x11] ∧ H2 p0 = some (.tup (encI (idn n))) ∧ H2 d = some (.dT kvs) ∧ H2 st = some (.dK skvs) ∧ H2 q = some (.lst vs) ∧
        FoundAt H2 kvs qs ∧ StAt H2 skvs qs ∧ PairsAt H2 vs qs ∧ QI n ds S qs M L ∧ skvs.length ≤ qs.length ∧ Shut S qs at' i ∧ qs[at']? = some (e, r) ∧ H2 qe0 = some (.tup (encI e)) ∧ Rw H2 qr0 r)
      ⟨eH, _, _, _, kvs, skvs, vs, qs, rfl, hp0, hd1, hst1, hq1, hF, hT, hP, hQ, hsl, hSh, hqe, hqe1, hqr1⟩ (fun i σ H2 hi h => stL (h.1 _ _ hb)) (fun i x σ H2 H3 hi h y => ?_) (fun σ H2 h => ?_)⟩
    · obtain ⟨eH, x9, x10, x11, kvs, skvs, vs, qs, rfl, hp0, hd1, hst1, hq1, hF, hT, hP, hQ, hsl, hSh, hqe, hqe1, us, hus1, hus2⟩ := h
      obtain ⟨rfl, hx⟩ := y
      have hle := hQ.le hg
      have hat2 : at' < qs.length := (List.getElem?_eq_some_iff.mp hqe).1
      obtain ⟨s, t, sp, hSi, rfl, sa, sb, hsp, hsa, ts, hts1, hts2⟩ := (hS.ei eH.ei).get hx
      have hSm := List.mem_of_getElem? hSi
      have hsr : RowFor n ds M L s t := hrow _ hSm
      have hqr := hQ.rows at' e r hqe
      have pe : Pm n e := by rw [← hqr.eff]; exact eff_pm hg.perm _
      have ps : Pm n s := by rw [← hsr.eff]; exact eff_pm hg.perm _
      have pes : Pm n (cmp e s) := pe.cmp ps
      have hrl : r.items.length ≤ 24500 := Nat.le_trans hqr.len (Nat.le_trans (Nat.mul_le_mul hL (show at' ≤ 49 by omega)) (by omega))
      have htl : t.items.length ≤ 500 := Nat.le_trans hsr.len hL
      have hul := hus2.len
      have htl2 := hts2.len
      have hrow2 := hqr.app hg.perm hsr
      have hMn : M * at' + M ≤ M * n := by rw [← Nat.mul_succ]; exact Nat.mul_le_mul (Nat.le_refl M) (by omega)
      have hLn : L * at' + L ≤ 40000 := by
        have : L * (at' + 1) ≤ 500 * 49 := Nat.mul_le_mul hL (by omega)
        rw [← Nat.mul_succ]
        exact Nat.le_trans this (by omega)
      refine g_two (stT hsp) ?_
      walk_at "wp"
      refine ⟨qe0, sa, e, s, rfl, hqe1, hsa, fun y hy => by rw [ps.len]; exact pe.lt y hy, by rw [pe.len]; omega, fun ep H4 e4 h4 => ?_⟩
      walk_at "wp"
      refine r_catT (stT (e4 _ _ hus1)) (stT (e4 _ _ hts1)) (small (by rw [hul, htl2]; omega)) (e4 _ _ hus1) (e4 _ _ hts1) fun rp H5 e5 h5 => ?_
      walk_at "wp"
      refine al (by walk_at "sz") fun pp H6 hpp0 e6 h6 => ?_
      walk_at "wp"
      have e26 := (e4.trans e5).trans e6
      have hpair : PairAt H6 pp (cmp e s) (r.app t) := ⟨ep, rp, h6, e6 _ _ (e5 _ _ h4), _, e6 _ _ h5, (hus2.ei e26.ei).app (hts2.ei e26.ei)⟩
      have hep : H6 ep = some (.tup (encI (cmp e s))) := e6 _ _ (e5 _ _ h4)
      refine r_ixT (n := 0) (stT h6) rfl ?_
      walk_at "wp"
      have hd6 := e26 _ _ hd1
      refine ⟨d, _, rfl, DGet.t (k := encK (cmp e s)) hd6 (by rw [encK_V]; exact hep), ?_⟩
      by_cases hin : cmp e s ∈ qs.map (·.1)
      · obtain ⟨j, hj, e0⟩ := List.getElem_of_mem hin
        rw [List.length_map] at hj
        rw [List.getElem_map] at e0
        obtain ⟨w1, hw1, _⟩ := hF.some hQ.nd (i := j) (e := cmp e s) (r := (qs[j]).2) (by rw [List.getElem?_eq_getElem hj, ← e0])
        rw [hw1]
        walk_at "wp"
        refine i_T ?_
        walk_at "wp"
        exact ⟨eH.trans e26, _, _, _, kvs, skvs, vs, qs, rfl, e26 _ _ hp0, hd6, e26 _ _ hst1, e26 _ _ hq1, hF.ei e26.ei, hT.ei e26.ei, hP.ei e26.ei, hQ, hsl, hSh.step hqe hSi hin, hqe, e26 _ _ hqe1, us, e26 _ _ hus1, hus2.ei e26.ei⟩
      · rw [hF.none hin]
        walk_at "wp"
        refine i_F ?_
        walk_at "wp"
        refine r_ixT (n := 0) (stT h6) rfl ?_
        walk_at "wp"
        have hne1 : cmp e s ≠ idn n := fun e0 => hin (by rw [e0]; exact List.mem_map.mpr ⟨_, List.mem_of_getElem? hQ.first, rfl⟩)
        refine ⟨ep, cmp e s, rfl, hep, fun j H7 e7 hj hjf => ?_, fun H7 e7 hno => ?_⟩
        · walk_at "wp"
          refine ⟨rfl, ?_⟩
          walk_at "wp"
          refine i_T ?_
          walk_at "wp"
          refine al (by walk_at "sz") fun rt H8 hrt e8 h8 => ?_
          exact kB rt pp H8 (cmp e s) (r.app t) j (((eH.trans e26).trans e7).trans e8) h8 (hpair.ei (e7.trans e8).ei) (hrow2.toEnd (by unfold endB; omega) (by omega)) hne1 (by rw [pes.len] at hj; exact hj) hjf
        · walk_at "wp"
          refine ⟨rfl, ?_⟩
          walk_at "wp"
          refine i_F ?_
          walk_at "wp"
          refine r_ixT (n := 0) (stT (e7 _ _ h6)) rfl ?_
          walk_at "wp"
          refine r_ixE (n := 0) (stT (e7 _ _ hep)) (by rw [pes.len]; omega) ?_
          walk_at "wp"
          have e27 := e26.trans e7
          have hst7 := e27 _ _ hst1
          refine ⟨st, _, rfl, dget_I hst7 rfl, ?_⟩
          rw [pes.len] at hno
          rcases hT (ap (cmp e s) 0) with ⟨hv0, hnot⟩ | ⟨j, f, r', p', hj, hjf, hv0, hp'⟩
          · rw [hv0]
            walk_at "wp"
            refine i_F ?_
            walk_at "wp"
            refine r_ixT (n := 1) (stT (e7 _ _ h6)) rfl ?_
            walk_at "wp"
            refine r_ixT (n := 0) (stT (e7 _ _ h6)) rfl ?_
            have hd7 := e27 _ _ hd1
            have hep7 := e7 _ _ hep
            have hpair7 := hpair.ei e7.ei
            have hrw7 : Rw H7 rp (r.app t) := ⟨_, e7 _ _ (e6 _ _ h5), (hus2.ei e27.ei).app (hts2.ei e27.ei)⟩
            refine ⟨d, _, rfl, DPut.t (k := encK (cmp e s)) hd7 (by rw [encK_V]; exact hep7) (smallL (by rw [hF.1]; omega)), ?_⟩
            generalize hH8 : upd H7 d (.dT (putK kvs (encK (cmp e s)) (V.ref rp))) = H8
            have m8 : Mu d H7 H8 := by rw [← hH8]; exact Mu.of hd7 rfl
            have d8 : H8 d = some (.dT (putK kvs (encK (cmp e s)) (V.ref rp))) := by rw [← hH8]; exact upd_same
            clear hH8
            walk_at "wp"
            refine r_ixT (n := 0) (stT (m8.tup (e7 _ _ h6))) rfl ?_
            walk_at "wp"
            refine r_ixE (n := 0) (stT (m8.tup hep7)) (by rw [pes.len]; omega) ?_
            have st8 := m8.rest st _ (Ne.symm hmd) hst7
            refine ⟨st, _, rfl, DPut.k (k := Sum.inl ((ap (cmp e s) 0 : Nat) : Int)) st8 (smallL (by omega)), ?_⟩
            generalize hH9 : upd H8 st (.dK (putK skvs (Sum.inl ((ap (cmp e s) 0 : Nat) : Int)) (V.ref pp))) = H9
            have m9 : Mu st H8 H9 := by rw [← hH9]; exact Mu.of st8 rfl
            have st9 : H9 st = some (.dK (putK skvs (Sum.inl ((ap (cmp e s) 0 : Nat) : Int)) (V.ref pp))) := by rw [← hH9]; exact upd_same
            clear hH9
            walk_at "wp"
            have q9 := m9.rest q _ (Ne.symm hsq) (m8.rest q _ (Ne.symm hmq) (e27 _ _ hq1))
            refine ty_list (stL q9) ?_
            walk_at "wp"
            refine r_app q9 (smallL (by rw [hP.1]; omega)) fun HC m10 h10 => ?_
            walk_at "wp"
            have eI : EI H7 HC := (m8.ei.trans m9.ei).trans m10.ei
            have eI2 := e27.ei.trans eI
            have hlen := length_putK skvs (Sum.inl ((ap (cmp e s) 0 : Nat) : Int)) (V.ref pp)
            refine ⟨((((eH.trans e27).mu m8 hdH).mu m9 hstH).mu m10 hqH), _, _, _, _, _, vs ++ [.ref pp], qs ++ [(cmp e s, r.app t)], rfl, eI2.tup hp0, m10.rest d _ hmq (m9.rest d _ hmd d8), m10.rest st _ hsq st9, h10, ((hF.ei e27.ei).put hin hrw7).ei eI, ((hT.ei e27.ei).put hnot hpair7).ei eI, ((hP.ei e27.ei).snoc hpair7).ei eI, hQ.snoc hg hqe hSm hsr hnot hno, by rw [List.length_append, List.length_singleton]; omega,
              (hSh.more hat2).step (by rw [List.getElem?_append_left hat2]; exact hqe) hSi (by rw [List.map_append]; exact List.mem_append_right _ (by simp)), by rw [List.getElem?_append_left hat2]; exact hqe, eI2.tup hqe1, us, eI2.tup hus1, hus2.ei eI2⟩
          · rw [hv0]
            walk_at "wp"
            refine i_T ?_
            walk_at "wp"
            refine r_ixT (n := 0) (stT (e7 _ _ h6)) rfl ?_
            walk_at "wp"
            refine r_ixE (n := 0) (stT (e7 _ _ hep)) (by rw [pes.len]; omega) ?_
            refine ⟨st, _, rfl, dget_I hst7 hv0, ?_⟩
            walk_at "wp"
            have hfr := hQ.rows j f r' hj
            have pf : Pm n f := by rw [← hfr.eff]; exact eff_pm hg.perm _
            refine ⟨pp, p', n, cmp e s, f, r.app t, r', rfl, hpair.ei e7.ei, hp'.ei e27.ei, pes, pf, by omega, by rw [items_app]; omega, fun z R H8 e8 hR hz => ?_⟩
            walk_at "wp"
            refine al (by walk_at "sz") fun rt H9 hrt e9 h9 => ?_
            have hjl : j ≤ n := by have := (List.getElem?_eq_some_iff.mp hj).1; omega
            have hRp := hR.pos
            have hRl := hR.le
            have h49 : (2 : Nat) ^ n ≤ 2 ^ 49 := Nat.pow_le_pow_right (by omega) few
            have hend := hrow2.powEnd hg.perm hfr (k := R - 1) (K2 := 2 ^ n) (by omega) (by omega)
            rw [pw_back pf hR.id hRp] at hend
            refine kB rt z H9 _ _ 0 (((eH.trans e27).trans e8).trans e9) h9 (hz.ei e9.ei) ⟨hend.eff, hend.bal, hend.names, hend.depth, fun x => Nat.le_trans (hend.cnt x) ?_, hend.below, Nat.le_trans hend.len (by omega)⟩ (fun e0 => ?_) (by omega) ?_
            · unfold endB
              exact Nat.add_le_add hMn (Nat.mul_le_mul (Nat.le_refl _) (Nat.mul_le_mul (Nat.le_refl M) hjl))
            · have : cmp e s = f := by
                have h2 : cmp (cmp (cmp e s) (inv f)) f = cmp (idn n) f := by rw [e0]
                rw [cmp_assoc pes.ef pf.inv.ef, inv_cmp pf, cmp_id pes.ef, id_cmp pf.ef] at h2
                exact h2
              exact hin (by rw [this]; exact List.mem_map.mpr ⟨_, List.mem_of_getElem? hj, rfl⟩)
            · rw [ap_cmp (by rw [pes.len]; omega), ← hjf, ap_inv pf (by omega)]
    · obtain ⟨eH, x9, x10, x11, kvs, skvs, vs, qs, rfl, hp0, hd1, hst1, hq1, hF, hT, hP, hQ, hsl, hSh, hqe, hqe1, hqr1⟩ := h
      have hat2 : at' < qs.length := (List.getElem?_eq_some_iff.mp hqe).1
      refine ⟨w0 - 1, by omega, eH, at' + 1, _, _, _, _, _, kvs, skvs, vs, qs, rfl, hp0, hd1, hst1, hq1, hF, hT, hP, hQ, hsl, fun j k q' s' hj hk hd2 => ?_, by omega, by omega⟩
      have hk2 := (List.getElem?_eq_some_iff.mp hk).1
      have hSl := hS.1
      exact hSh j k q' s' hj hk (by omega)
  · walk_at "wp"
    refine al (by walk_at "sz") fun rt H2 hrt e2 h2 => ?_
    have hend : at' = qs.length := by omega
    exact kA rt d H2 kvs qs (eH.trans e2) h2 hdH (e2 _ _ hd1) (hF.ei e2.ei) hQ (by rw [← hend]; exact hSh)

end
end Eo
namespace Eo
open PySem PyProof.Rows L2 L2.DX
/-! words of the walk: wp goes on where nothing is open; hl looks an object up; ex: what stood stands -/
local macro_rules | `(tactic| walk_at "hl") => `(tactic| first | assumption | exact PlT.sq (by assumption) | (refine stT ?_; walk_at "hl") | (refine stL ?_; walk_at "hl") | (refine Ex.at (by assumption) ?_; walk_at "hl") | (refine Mu.tup (by assumption) ?_; walk_at "hl") | (refine Ex.sqT (by assumption) ?_; walk_at "hl") | (refine Ex.sqL (by assumption) ?_; walk_at "hl") | (refine Ex.plT (by assumption) ?_; walk_at "hl") | (refine Mu.plT (by assumption) ?_; walk_at "hl"))
local macro_rules | `(tactic| walk_at "ex") => `(tactic| first | assumption | exact Ex.refl _ | (refine Ex.trans ?_ (by assumption); walk_at "ex") | (refine Ex.mu ?_ (by assumption) (by first | assumption | walk_at "fr"); walk_at "ex"))
local macro_rules | `(tactic| walk_at "fr") => `(tactic| first | assumption | (refine Ex.free (by assumption) ?_; walk_at "fr"))
local macro_rules | `(tactic| walk_at "rf") => `(tactic| with_unfolding_all rfl)
local macro_rules | `(tactic| walk_at "wp") => `(tactic| repeat (with_reducible first
  | refine q_seq ?_ | refine q_asg ?_ | refine q_ret ?_ | refine q_drop ?_ | refine q_if ?_ | refine q_next ?_ | refine q_par ?_ | refine q_par3 ?_ | refine q_retN ?_ | refine q_cont ?_ | refine q_brk ?_
  | refine e_var (by with_unfolding_all rfl) ?_ | refine e_c ?_ | refine e_op ?_ | refine e_cons ?_ | refine e_nil ?_ | refine e_test ?_ | refine e_B ?_ | refine e_yes ?_ | refine e_cb ?_ | refine e_call ?_ | refine e_then ?_ | refine e_tup ?_ | refine e_lst ?_
  | refine x_bl ?_ | refine i_T ?_ | refine i_F ?_ | refine x_two ?_ | refine x_three ?_
  | refine r_I0 ?_ | refine r_add ?_ | refine r_ip ?_ | refine g_nm ?_ | refine r_eqI ?_ | refine r_neI ?_ | refine r_eq (by with_unfolding_all rfl) ?_ | refine r_ne (by with_unfolding_all rfl) ?_
  | refine e_not ?_ | refine e_and ?_ | refine e_or ?_ | refine e_andV ?_ | refine e_orV ?_ | refine e_notV ?_ | refine e_ifx ?_ | refine e_idxF ?_ | refine e_idxI ?_ | refine e_sl ?_ | refine e_part ?_ | refine e_nopart ?_ | refine f_revA ?_ | refine e_lenSet ?_ | refine l_dcT ?_ | refine e_sadd ?_ | refine q_asgS ?_ | refine q_augS ?_ | refine e_tupRg ?_ | refine e_lstRg ?_ | refine e_rg1 ?_ | refine e_rg2 ?_ | refine e_dget ?_ | refine e_din ?_ | refine e_dnotin ?_ | refine e_dget2 ?_ | refine q_dput ?_ | refine e_un ?_ | refine e_chain ?_ | refine e_bm ?_ | refine e_bm0 ?_ | refine e_fld ?_ | refine q_asgT ?_
  | refine l_any ?_ | refine l_tup ?_ | refine l_list ?_ | refine l_rng1 ?_ | refine l_rng2 ?_ | refine l_str ?_ | refine l_enumL ?_ | refine l_enumT ?_ | refine l_zip ?_ | refine l_zipM ?_
  | refine f_tup ?_ | refine f_list ?_ | refine f_rng1 ?_ | refine f_enumL ?_ | refine f_enumT ?_))
local macro_rules | `(tactic| walk_at "sz") => `(tactic| first | decide | (refine small ?_; simp; done) | (refine small ?_; simp; omega) | (refine smallL ?_; simp; done) | (refine smallL ?_; simp; omega) | (simp; done) | (simp; omega))
section
variable {P : Program} {w : World} {K : PySem.W.Frag} {mg : Str → Option Value} {base : Heap} {C : Addr} {A : Nat → Addr} {FD : Nat → FuncData}
structure SG (n : Nat) (ds : Ds) (SS qs : Sts) : Prop where
  q : QI n ds SS qs (2 ^ n * 128) 260
  shut : Shut SS qs qs.length 0
  rows : ∀ (k : Nat) (s : List Nat) (t : Row Str), SS[k]? = some (s, t) → RowFor n ds (2 ^ n * (k + 1)) (4 + 2 * k) s t
  len : SS.length ≤ 64 + qs.length
  mixes : ∀ (i j : Nat) (a b : Str × List Nat), i < j → ds[i]? = some a → ds[j]? = some b → mix a.2 b.2 ∈ qs.map (·.1)
def CJ (ds : Ds) (SS qs : Sts) (u v : Nat) : Prop := ∀ (k m : Nat) (s : List Nat × Row Str) (p : Str × List Nat), SS[k]? = some s → ds[m]? = some p → (k < u ∨ (k = u ∧ m < v)) → conj p.2 s.1 ∈ qs.map (·.1)
theorem rows_pm {n : Nat} {ds : Ds} (g : Good n ds) {SS : Sts} (h : ∀ (k : Nat) (s : List Nat) (t : Row Str), SS[k]? = some (s, t) → RowFor n ds (2 ^ n * (k + 1)) (4 + 2 * k) s t) : ∀ s ∈ SS.map (·.1), Pm n s := fun s hs => by
  obtain ⟨p, hp, rfl⟩ := List.mem_map.mp hs
  obtain ⟨k, hk, e⟩ := List.getElem_of_mem hp
  have := h k p.1 p.2 (by rw [List.getElem?_eq_getElem hk, e])
  rw [← this.eff]
  exact eff_pm g.perm _
theorem rows_uni {n : Nat} {ds : Ds} {SS : Sts} (h : ∀ (k : Nat) (s : List Nat) (t : Row Str), SS[k]? = some (s, t) → RowFor n ds (2 ^ n * (k + 1)) (4 + 2 * k) s t) (hl : SS.length ≤ 128) : ∀ s ∈ SS, RowFor n ds (2 ^ n * 128) 260 s.1 s.2 := fun p hp => by
  obtain ⟨k, hk, e⟩ := List.getElem_of_mem hp
  exact (h k p.1 p.2 (by rw [List.getElem?_eq_getElem hk, e])).mono (Nat.mul_le_mul (Nat.le_refl _) (by omega)) (by omega)
theorem SG.free {n : Nat} {ds : Ds} (g : Good n ds) {SS qs : Sts} (h : SG n ds SS qs) {u : Nat} (hc : CJ ds SS qs u 0) (hu : SS.length ≤ u) : Free n ds := by
  refine free_of g.perm (S := SS.map (·.1)) (F := qs.map (·.1)) (rows_pm g h.rows) (fun e => h.q.all h.shut) (fun e he hne s hs => ?_) (fun p hp s hs => ?_) h.mixes
  · obtain ⟨q, hq, rfl⟩ := List.mem_map.mp he
    exact h.q.fix q hq hne s hs
  · obtain ⟨s', hs', rfl⟩ := List.mem_map.mp hs
    obtain ⟨k, hk, e⟩ := List.getElem_of_mem hs'
    obtain ⟨m, hm, e2⟩ := List.getElem_of_mem hp
    exact hc k m s' p (by rw [List.getElem?_eq_getElem hk, e]) (by rw [List.getElem?_eq_getElem hm, e2]) (.inl (by omega))
/-- one more step -/
theorem SG.more {n : Nat} {ds : Ds} (g : Good n ds) {SS qs qs' : Sts} (h : SG n ds SS qs) {s : List Nat} {t : Row Str} (hr : RowFor n ds (2 ^ n * (SS.length + 1)) (4 + 2 * SS.length) s t) (hn : s ∉ qs.map (·.1)) (hq : QI n ds (SS ++ [(s, t)]) qs' (2 ^ n * 128) 260) (hs : Shut (SS ++ [(s, t)]) qs' qs'.length 0) :
    SG n ds (SS ++ [(s, t)]) qs' ∧ (∀ e, e ∈ qs.map (·.1) → e ∈ qs'.map (·.1)) ∧ s ∈ qs'.map (·.1) := by
  have hrows : ∀ (k : Nat) (s' : List Nat) (t' : Row Str), (SS ++ [(s, t)])[k]? = some (s', t') → RowFor n ds (2 ^ n * (k + 1)) (4 + 2 * k) s' t' := fun k s' t' hk => by
    rcases snoc_get hk with ⟨_, hk'⟩ | ⟨rfl, hk'⟩
    · exact h.rows k s' t' hk'
    · cases hk'
      exact hr
  have hpm := rows_pm g hrows
  have sub : ∀ e, e ∈ qs.map (·.1) → e ∈ qs'.map (·.1) := fun e he => (hq.all hs).mp (Gen.mono (fun x hx => by rw [List.map_append]; exact List.mem_append_left _ hx) ((h.q.all h.shut).mpr he))
  have new : s ∈ qs'.map (·.1) := (hq.all hs).mp (Gen.one hpm (by rw [List.map_append]; exact List.mem_append_right _ (by simp)))
  have hl : (qs.map (·.1) ++ [s]).length ≤ (qs'.map (·.1)).length := sub_len (by
    rw [List.nodup_append]
    exact ⟨h.q.nd, by simp, fun x hx y hy e => by rw [List.mem_singleton] at hy; subst hy; subst e; exact hn hx⟩) fun x hx => by
      rcases List.mem_append.mp hx with hx | hx
      · exact sub x hx
      · rw [List.mem_singleton] at hx; subst hx; exact new
  rw [List.length_append, List.length_map, List.length_map, List.length_singleton] at hl
  refine ⟨⟨hq, hs, hrows, ?_, fun i j a b hij ha hb => sub _ (h.mixes i j a b hij ha hb)⟩, sub, new⟩
  rw [List.length_append, List.length_singleton]
  have := h.len
  omega
/-- what stands astray -/
def Astray (H : Hp) (n : Nat) (ds : Ds) (y : V) : Prop := ∃ q e r s, y = .ref q ∧ PairAt H q e r ∧ RowEnd n ds (endB n (2 ^ n * 128)) 50000 e r ∧ e ≠ idn n ∧ s < n ∧ ap e s = s
theorem Astray.ei {H H' : Hp} {n : Nat} {ds : Ds} {y : V} (h : Astray H n ds y) (x : EI H H') : Astray H' n ds y := let ⟨q, e, r, s, h1, h2, h3⟩ := h; ⟨q, e, r, s, h1, h2.ei x, h3⟩
/-- what stands found -/
def Founds (H : Hp) (x : V) (qs : Sts) : Prop := ∃ d kvs, x = .ref d ∧ H d = some (.dT kvs) ∧ FoundAt H kvs qs
theorem Founds.ex {H H' : Hp} {x : V} {qs : Sts} (h : Founds H x qs) (e : Ex H H') : Founds H' x qs := let ⟨d, kvs, h1, h2, h3⟩ := h; ⟨d, kvs, h1, e _ _ h2, h3.ei e.ei⟩
theorem Founds.mu {H H' : Hp} {x : V} {qs : Sts} {l : Addr} {ws : List V} (h : Founds H x qs) (m : Mu l H H') (hl : H l = some (.lst ws)) : Founds H' x qs := let ⟨d, kvs, h1, h2, h3⟩ := h; ⟨d, kvs, h1, m.rest d _ (ne_obj h2 hl fun e => nomatch e) h2, h3.ei m.ei⟩
def LM (n : Nat) (ds : Ds) (S : Sts) (H' : Hp) (x y : V) : Prop := (y = .non ∧ ∃ qs, Founds H' x qs ∧ QI n ds S qs (2 ^ n * 128) 260 ∧ Shut S qs qs.length 0) ∨ Astray H' n ds y
def sp_listed_mixes2 (C0 : Addr) : Sp := fun vs H Q _ => ∃ (a b : Addr) (n : Nat) (ds : Ds) (ws : List V) (S : Sts), vs = [.ref a, .ref b] ∧ Mac C0 H a n ds ∧ Good n ds ∧ H b = some (.lst ws) ∧ PairsAt H ws S ∧ (∀ s ∈ S, RowFor n ds (2 ^ n * 128) 260 s.1 s.2) ∧
  ∀ p x y H', Ex H H' → H' p = some (.tup [x, y]) → LM n ds S H' x y → Q (.ref p) H'
theorem ok_listed_mixes2 (T : Tx K mg C A FD) : (FnOk P w K mg base CX0 5 (A 37) (FD 37) ["machine", "steps"] (sp_listed_mixes2 C)) := (ok_listed_mixes T).imp fun vs H Q E h => by
  obtain ⟨a, b, n, ds, ws, S, e, h1, h2, h3, h4, h5, k⟩ := h
  exact ⟨a, b, n, ds, ws, S, _, _, e, h1, h2, h3, h4, h5, by omega, fun p d H' kvs qs x1 x2 x3 x4 x5 x6 x7 => k p _ _ H' x1 x2 (.inl ⟨rfl, qs, ⟨d, kvs, rfl, x4, x5⟩, x6, x7⟩), fun p q H' e r s x1 x2 x3 x4 x5 x6 x7 => k p _ _ H' x1 x2 (.inr ⟨q, e, r, s, rfl, x3, x4, x5, x6, x7⟩)⟩
theorem RndAt.mu {H H' : Hp} {d : Addr} {n : Nat} {ds : Ds} {l : Addr} {ws : List V} (h : RndAt H d n ds) (m : Mu l H H') (hl : H l = some (.lst ws)) : RndAt H' d n ds := let ⟨kvs, h1, h2⟩ := h; ⟨kvs, m.rest d _ (ne_obj h1 hl fun e => nomatch e) h1, h2⟩
def sp_search_mixes (C0 : Addr) : Sp := fun vs H Q _ => ∃ (a : Addr) (n : Nat) (ds : Ds), vs = [.ref a] ∧ Mac C0 H a n ds ∧ Good n ds ∧
  (∀ p x H' SS qs, Ex H H' → H' p = some (.tup [x, .non]) → Founds H' x qs → SG n ds SS qs → Free n ds → Q (.ref p) H') ∧
  (∀ p x y H', Ex H H' → H' p = some (.tup [x, y]) → Astray H' n ds y → Q (.ref p) H')
theorem ok_search_mixes (T : Tx K mg C A FD) : (FnOk P w K mg base CX0 10 (A 38) (FD 38) ["machine"] (sp_search_mixes C)) := by
  refine T.d_search_mixes.F.ok sc_search_mixes (fun vs H Q E h => by obtain ⟨a, n, ds, rfl, hm, hg, kA, kB⟩ := h; rfl) (fun cdv A0 outer s H vs Q E hr h => ?_)
  obtain ⟨a, n, ds, rfl, hm, hg, kA, kB⟩ := h
  have hu := hu_of hr
  have hu64 := hr.units
  have hu2 : _ + 65 < cLine := (fun {A : Around} {k} (hr : Room k A) => (by have := hr.un; omega : A.units + 65 < cLine)) hr
  refine ⟨_, (pss_cons (ps_par (i := 1) (j := 2) rfl sc_search_mixes.nd rfl rfl (by decide) rfl rfl (pa_cons (pe_call (ok_first_mixes T) (hr.mono (by decide)) (by rfl) T.d_first_mixes.g T.d_first_mixes.F.kp T.d_first_mixes.b .nil pass0 (pa_cons (pv 0) pa_nil)) (pa_cons (pe_call (ok_named_rounds T) (hr.mono (by decide)) (by rfl) T.d_named_rounds.g T.d_named_rounds.F.kp T.d_named_rounds.b .nil pass0 (pa_cons (pv 0) pa_nil)) pa_nil)) rfl)
    (pss_cons (ps_asg (pe_call (ok_listed_mixes2 T) (hr.mono (by decide)) (by rfl) T.d_listed_mixes.g T.d_listed_mixes.F.kp T.d_listed_mixes.b .nil pass0 (pa_cons (pv 0) (pa_cons (pv 1) pa_nil))) (kpg_tup K (n := 2) (by rfl) (pgs_cons (pg_name (i := 3) sc_search_mixes.nd rfl (by first | exact .inl rfl | exact .inr rfl)) (pgs_cons (pg_name (i := 4) sc_search_mixes.nd rfl (by first | exact .inl rfl | exact .inr rfl)) pgs_nil))))
    (pss_cons (ps_set (i := 5) sc_search_mixes.nd rfl (.inl rfl) pe_int)
    (pss_cons (ps_while PassesOwn.never (PW.pt (pw_and (pt_cmpR op_isN (pv 4) pe_non (nomark _)) (pw_and1 (pt_cmpR op_lt (pv 5) (pe_callB (kcall_len K) (by rfl) T.z_len (by decide +kernel) (pa_cons (pv 1) pa_nil)) (nomark _))))) (pss_cons (ps_for PassesOwn.never rfl (kpi_tup K (kpe_fld K (pv 0))) (pg_name (i := 6) sc_search_mixes.nd rfl (by first | exact .inl rfl | exact .inr rfl)) (pss_cons (ps_set (i := 7) sc_search_mixes.nd rfl (.inl rfl) (pe_call (ok_led_around T) (hr.mono (by decide)) (by rfl) T.d_led_around.g T.d_led_around.F.kp T.d_led_around.b .nil pass0 (pa_cons (pv 6) (pa_cons (pv 2) (pa_cons (pe_ix (kix_list K) (pv 1) (pv 5) (fun _ _ => rfl)) pa_nil)))))
        (pss_one (ps_if (PW.pt (pw_and (pt_cmpR op_isN (pv 4) pe_non (nomark _)) (pw_and1 (pt_cmp (pc_dnotin hu (pe_ix (kix_tup K) (pv 7) pe_int (fun _ _ => rfl)) (pv 3)))))) (pss_cons (ps_expr (kpe_bm K PySem.F.plainAttrs_list PySem.F.slot_list_append PySem.F.type_list_append mt_append (pv 1) (pa_cons (pv 7) pa_nil)))
          (pss_one (ps_asg (pe_call (ok_listed_mixes2 T) (hr.mono (by decide)) (by rfl) T.d_listed_mixes.g T.d_listed_mixes.F.kp T.d_listed_mixes.b .nil pass0 (pa_cons (pv 0) (pa_cons (pv 1) pa_nil))) (kpg_tup K (n := 2) (by rfl) (pgs_cons (pg_name (i := 3) sc_search_mixes.nd rfl (by first | exact .inl rfl | exact .inr rfl)) (pgs_cons (pg_name (i := 4) sc_search_mixes.nd rfl (by first | exact .inl rfl | exact .inr rfl)) pgs_nil)))))) pss_nil))))
      (pss_one (ps_aug (i := 5) sc_search_mixes.nd rfl (.inl rfl) pe_int ip_add))))
    (pss_one (ps_ret (pe_tup (pa_cons (pv 3) (pa_cons (pv 4) pa_nil))))))))), ?_⟩
  clear hu hu64 hu2
  walk_at "wp"
  have few := hg.few
  have two := hg.two
  refine ⟨a, n, ds, rfl, hm, hg, fun l H1 ws0 ss hl e1 h1 hP hs64 hrow hmix => ?_⟩
  walk_at "wp"
  refine ⟨a, n, ds, rfl, hm.ex' e1, hg, fun rd H2 e2 hrd => ?_⟩
  walk_at "wp"
  have e12 := e1.trans e2
  have hrows0 : ∀ (k : Nat) (s : List Nat) (t : Row Str), ss[k]? = some (s, t) → RowFor n ds (2 ^ n * (k + 1)) (4 + 2 * k) s t := fun k s t hk =>
    (hrow _ (List.mem_of_getElem? hk)).mono (by rw [Nat.mul_succ]; omega) (by omega)
  obtain ⟨dx, dd, nm, vs, hm1, hm2, hm3, hm4⟩ := hm.ex
  refine ⟨a, l, n, ds, ws0, ss, rfl, hm.ex' e12, hg, e2 _ _ h1, hP.ei e2.ei, rows_uni hrows0 (by omega), fun p x y H3 e3 hp hLM => ?_⟩
  have e13 := e12.trans e3
  refine g_two (stT hp) ?_
  walk_at "wp"
  have hlH := hl
  -- what the walk holds: found, or astray
  have start : (y = .non ∧ ∃ qs, Founds H3 x qs ∧ SG n ds ss qs) ∨ Astray H3 n ds y := by
    rcases hLM with ⟨rfl, qs, hf, hq, hs⟩ | h
    · refine .inl ⟨rfl, qs, hf, hq, hs, hrows0, by omega, fun i j u v hij hu hv => ?_⟩
      refine (hq.all hs).mp ?_
      rcases hmix i j u v hij hu hv with e | m
      · rw [e]; exact .id
      · exact Gen.one (rows_pm hg hrows0) m
    · exact .inr h
  refine w_W (fun w0 σ H4 => Ex H H4 ∧ ∃ (u : Nat) (x y : V) (x6 x7 : Option V) (ws : List V) (SS : Sts), σ = [some (.ref a), some (.ref l), some (.ref rd), some x, some y, some (.int (u : Nat)), x6, x7] ∧ H4 l = some (.lst ws) ∧ PairsAt H4 ws SS ∧ (∀ (k : Nat) (s : List Nat) (t : Row Str), SS[k]? = some (s, t) → RowFor n ds (2 ^ n * (k + 1)) (4 + 2 * k) s t) ∧ SS.length ≤ 65 + n ∧ RndAt H4 rd n ds ∧ u ≤ 64 + n ∧ w0 + u = 65 + n ∧
      ((y = .non ∧ ∃ qs, Founds H4 x qs ∧ SG n ds SS qs ∧ CJ ds SS qs u 0) ∨ Astray H4 n ds y)) (65 + n)
    ⟨e13, 0, x, y, _, _, ws0, ss, rfl, e3 _ _ (e2 _ _ h1), (hP.ei e2.ei).ei e3.ei, hrows0, by omega, hrd.ex e3, by omega, by omega, start.imp (fun ⟨h1, qs, h2, h3⟩ => ⟨h1, qs, h2, h3, fun k m s p _ _ h => by omega⟩) id⟩ (fun w0 σ H4 h => ?_)
  obtain ⟨e4, u, x, y, x6, x7, ws, SS, rfl, hl4, hP4, hR4, hS4, hrd4, hu, hw, hst⟩ := h
  walk_at "wp"
  refine ⟨rfl, ?_⟩
  walk_at "wp"
  have fin : ∀ H5, Ex H4 H5 → ((y = .non ∧ (∃ qs, Founds H4 x qs ∧ SG n ds SS qs ∧ CJ ds SS qs u 0) ∧ SS.length ≤ u) ∨ Astray H4 n ds y) → ∀ p, H5 p = some (.tup [x, y]) → Q (.ref p) H5 := fun H5 e5 h p hp => by
    rcases h with ⟨rfl, ⟨qs, h1, h2, h3⟩, h4⟩ | h
    · exact kA p x H5 SS qs (e4.trans e5) hp (h1.ex e5) h2 (h2.free hg h3 h4)
    · exact kB p x y H5 (e4.trans e5) hp (h.ei e5.ei)
  refine i_d (fun hyn => ?_) (fun hyn => ?_)
  · subst hyn
    have hst2 : ∃ qs, Founds H4 x qs ∧ SG n ds SS qs ∧ CJ ds SS qs u 0 := by
      rcases hst with ⟨_, h⟩ | ⟨q, _, _, _, h, _⟩
      · exact h
      · cases h
    walk_at "wp"
    refine r_lenL (stL hl4) ?_
    rw [hP4.1]
    walk_at "wp"
    refine i_d (fun hlt => w_N ?_) (fun hlt => ?_)
    · obtain ⟨qs0, hf0, hSG0, hCJ0⟩ := hst2
      have hqle := hSG0.q.le hg
      have hSl := hSG0.len
      obtain ⟨s0, t0, hs0⟩ : ∃ s t, SS[u]? = some (s, t) := ⟨_, _, List.getElem?_eq_getElem (by omega)⟩
      walk_at "wp"
      refine ⟨a, C, dx, _, _, rfl, e4 _ _ hm1, T.cl, T.nD, rfl, ?_⟩
      refine ⟨dd, rfl, ⟨_, (e4.plT hm2).sq⟩, fr_W walk_tup (fun i σ H5 => Ex H H5 ∧ ∃ (x y : V) (x6 x7 : Option V) (ws : List V) (SS : Sts), σ = [some (.ref a), some (.ref l), some (.ref rd), some x, some y, some (.int (u : Nat)), x6, x7] ∧ H5 l = some (.lst ws) ∧ PairsAt H5 ws SS ∧ (∀ (k : Nat) (s : List Nat) (t : Row Str), SS[k]? = some (s, t) → RowFor n ds (2 ^ n * (k + 1)) (4 + 2 * k) s t) ∧ SS.length ≤ 65 + n ∧ RndAt H5 rd n ds ∧ SS[u]? = some (s0, t0) ∧
          ((y = .non ∧ ∃ qs, Founds H5 x qs ∧ SG n ds SS qs ∧ CJ ds SS qs u i) ∨ Astray H5 n ds y))
        ⟨e4, x, .non, _, _, ws, SS, rfl, hl4, hP4, hR4, hS4, hrd4, hs0, .inl ⟨rfl, qs0, hf0, hSG0, hCJ0⟩⟩ (fun i σ H5 hi h => (h.1.plT hm2).sq) (fun i x' σ H5 H6 hi h y' => ?_) (fun σ H5 h => ?_)⟩
      · obtain ⟨e5, x, y, x6, x7, ws, SS, rfl, hl5, hP5, hR5, hS5, hrd5, hsu, hst⟩ := h
        obtain ⟨rfl, hx⟩ := y'
        obtain ⟨nmx, f, dp, dq, hdi, rfl, hdp, hdq⟩ := (hm3.ei e5.ei).get hx
        have hdm := List.mem_of_getElem? hdi
        have hul : u < SS.length := (List.getElem?_eq_some_iff.mp hsu).1
        obtain ⟨sp, hv, hspair⟩ := hP5.2 u s0 t0 hsu
        have hs0r := hR5 u s0 t0 hsu
        have ps0 : Pm n s0 := by rw [← hs0r.eff]; exact eff_pm hg.perm _
        have pf : Pm n f := hg.perm _ hdm
        walk_at "wp"
        refine r_ixL (n := u) (stL hl5) (atI_ok hv) ?_
        walk_at "wp"
        refine ⟨dp, rd, sp, dq, n, ds, nmx, f, s0, t0, rfl, hdp, hdq, hrd5, hdm, hspair, pf, ps0, by omega, by have := hs0r.len; omega, fun pp R H7 e7 hR hpair => ?_⟩
        walk_at "wp"
        refine ⟨rfl, ?_⟩
        walk_at "wp"
        have hled := led_for hg hdm hR hs0r
        obtain ⟨ep, rp, hpp, hep, hrp⟩ := hpair
        have keep : ((y = .non ∧ ∃ qs, Founds H7 x qs ∧ SG n ds SS qs ∧ CJ ds SS qs u (i + 1)) ∨ Astray H7 n ds y) → Ex H H7 ∧ ∃ (x' y' : V) (x6 x7 : Option V) (ws : List V) (SS : Sts), [some (V.ref a), some (V.ref l), some (V.ref rd), some x, some y, some (V.int (u : Nat)), some (V.ref dp), some (V.ref pp)] = [some (.ref a), some (.ref l), some (.ref rd), some x', some y', some (.int (u : Nat)), x6, x7] ∧ H7 l = some (.lst ws) ∧ PairsAt H7 ws SS ∧ (∀ (k : Nat) (s : List Nat) (t : Row Str), SS[k]? = some (s, t) → RowFor n ds (2 ^ n * (k + 1)) (4 + 2 * k) s t) ∧ SS.length ≤ 65 + n ∧ RndAt H7 rd n ds ∧ SS[u]? = some (s0, t0) ∧
          ((y' = .non ∧ ∃ qs, Founds H7 x' qs ∧ SG n ds SS qs ∧ CJ ds SS qs u (i + 1)) ∨ Astray H7 n ds y') := fun h => ⟨e5.trans e7, x, y, _, _, ws, SS, rfl, e7 _ _ hl5, hP5.ei e7.ei, hR5, hS5, hrd5.ex e7, hsu, h⟩
        have cj : ∀ (SS' qs qs' : Sts), CJ ds SS qs u i → (∀ e, e ∈ qs.map (·.1) → e ∈ qs'.map (·.1)) → (∀ k s, k ≤ u → SS'[k]? = some s → SS[k]? = some s) → conj f s0 ∈ qs'.map (·.1) → CJ ds SS' qs' u (i + 1) := fun SS' qs qs' h1 h2 h3 h4 k m s p hk hm2 hd2 => by
          have hk' := h3 k s (by omega) hk
          by_cases hh : k < u ∨ (k = u ∧ m < i)
          · exact h2 _ (h1 k m s p hk' hm2 hh)
          · have e1 : k = u := by omega
            have e2 : m = i := by omega
            subst e1
            subst e2
            rw [hsu] at hk'
            rw [hdi] at hm2
            cases hk'
            cases hm2
            exact h4
        refine i_d (fun hyn => ?_) (fun hyn => ?_)
        · subst hyn
          rcases hst with ⟨_, qs, hf, hSG, hCJ⟩ | ⟨q0, _, _, _, h, _⟩
          · walk_at "wp"
            refine r_ixT (n := 0) (stT hpp) rfl ?_
            walk_at "wp"
            obtain ⟨d, kvs, rfl, hd7, hF7⟩ := hf.ex e7
            refine ⟨d, _, rfl, DGet.t (k := encK (conj f s0)) hd7 (by rw [encK_V]; exact hep), ?_⟩
            have hqn := hSG.q.le hg
            have hSq := hSG.len
            by_cases hin : conj f s0 ∈ qs.map (·.1)
            · obtain ⟨j, hj, e0⟩ := List.getElem_of_mem hin
              rw [List.length_map] at hj
              rw [List.getElem_map] at e0
              obtain ⟨w1, hw1, _⟩ := hF7.some hSG.q.nd (i := j) (e := conj f s0) (r := (qs[j]).2) (by rw [List.getElem?_eq_getElem hj, ← e0])
              rw [hw1]
              walk_at "wp"
              refine i_F ?_
              walk_at "wp"
              exact keep (.inl ⟨rfl, qs, ⟨d, kvs, rfl, hd7, hF7⟩, hSG, cj SS qs qs hCJ (fun _ h => h) (fun _ _ _ h => h) hin⟩)
            · rw [hF7.none hin]
              walk_at "wp"
              refine i_T ?_
              walk_at "wp"
              refine ty_list (stL (e7 _ _ hl5)) ?_
              walk_at "wp"
              refine r_app (e7 _ _ hl5) (smallL (by rw [hP5.1]; omega)) fun H8 m8 h8 => ?_
              walk_at "wp"
              have e8 : Ex H H8 := (e5.trans e7).mu m8 hlH
              have hrowN : RowFor n ds (2 ^ n * (SS.length + 1)) (4 + 2 * SS.length) (conj f s0) (.pow (.nm nmx .nil) (R - 1) (t0.app (.nm nmx .nil))) := hled.mono (by
                have : 2 ^ n * (u + 1) + 2 ^ n = 2 ^ n * (u + 2) := by rw [Nat.mul_succ, Nat.mul_succ, Nat.mul_succ]
                rw [this]
                exact Nat.mul_le_mul (Nat.le_refl _) (by omega)) (by omega)
              have hrows2 : ∀ (k : Nat) (s : List Nat) (t : Row Str), (SS ++ [(conj f s0, Row.pow (.nm nmx .nil) (R - 1) (t0.app (.nm nmx .nil)))])[k]? = some (s, t) → RowFor n ds (2 ^ n * (k + 1)) (4 + 2 * k) s t := fun k s t hk => by
                rcases snoc_get hk with ⟨_, hk'⟩ | ⟨rfl, hk'⟩
                · exact hR5 k s t hk'
                · cases hk'
                  exact hrowN
              have hPN := ((hP5.ei e7.ei).snoc ⟨ep, rp, hpp, hep, hrp⟩).ei m8.ei
              refine ⟨a, l, n, ds, _, _, rfl, hm.ex' e8, hg, h8, hPN, rows_uni hrows2 (by rw [List.length_append, List.length_singleton]; omega), fun p x y H9 e9 hp hLM => ?_⟩
              refine g_two (stT hp) ?_
              refine ⟨e8.trans e9, x, y, _, _, _, _, rfl, e9 _ _ h8, hPN.ei e9.ei, hrows2, by rw [List.length_append, List.length_singleton]; omega, ((hrd5.ex e7).mu m8 (e7 _ _ hl5)).ex e9, by rw [List.getElem?_append_left hul]; exact hsu, ?_⟩
              rcases hLM with ⟨rfl, qs', hf', hq', hs'⟩ | h
              · obtain ⟨g1, g2, g3⟩ := hSG.more hg hrowN hin hq' hs'
                exact .inl ⟨rfl, qs', hf', g1, cj _ qs qs' hCJ g2 (fun k s hk h => snoc_old h (by omega)) g3⟩
              · exact .inr h
          · cases h
        · walk_at "wp"
          refine keep (.inr ?_)
          rcases hst with ⟨h, _⟩ | h
          · exact absurd h hyn
          · exact h.ei e7.ei
      · obtain ⟨e5, x, y, x6, x7, ws, SS, rfl, hl5, hP5, hR5, hS5, hrd5, hsu, hst⟩ := h
        walk_at "wp"
        refine ⟨_, rfl, ?_⟩
        walk_at "wp"
        refine ⟨w0 - 1, by omega, e5, u + 1, x, y, _, _, ws, SS, rfl, hl5, hP5, hR5, hS5, hrd5, by omega, by omega, hst.imp (fun ⟨h1, qs, h2, h3, h4⟩ => ⟨h1, qs, h2, h3, fun k m s p hk hm4 hd2 => h4 k m s p hk hm4 ?_⟩) id⟩
        have := (List.getElem?_eq_some_iff.mp hm4).1
        have := hm3.1
        omega
    · walk_at "wp"
      refine al (by walk_at "sz") fun rt H5 hrt e5 h5 => ?_
      exact fin H5 e5 (.inl ⟨rfl, hst2, by omega⟩) rt h5
  · walk_at "wp"
    refine al (by walk_at "sz") fun rt H5 hrt e5 h5 => ?_
    refine fin H5 e5 (.inr ?_) rt h5
    rcases hst with ⟨h, _⟩ | h
    · exact absurd h hyn
    · exact h

end
end Eo
namespace Eo
open PySem PyProof.Rows L2 L2.DX
/-! words of the walk: wp goes on where nothing is open; hl looks an object up; ex: what stood stands -/
local macro_rules | `(tactic| walk_at "hl") => `(tactic| first | assumption | exact PlT.sq (by assumption) | (refine stT ?_; walk_at "hl") | (refine stL ?_; walk_at "hl") | (refine Ex.at (by assumption) ?_; walk_at "hl") | (refine Mu.tup (by assumption) ?_; walk_at "hl") | (refine Ex.sqT (by assumption) ?_; walk_at "hl") | (refine Ex.sqL (by assumption) ?_; walk_at "hl") | (refine Ex.plT (by assumption) ?_; walk_at "hl") | (refine Mu.plT (by assumption) ?_; walk_at "hl"))
local macro_rules | `(tactic| walk_at "ex") => `(tactic| first | assumption | exact Ex.refl _ | (refine Ex.trans ?_ (by assumption); walk_at "ex") | (refine Ex.mu ?_ (by assumption) (by first | assumption | walk_at "fr"); walk_at "ex"))
local macro_rules | `(tactic| walk_at "fr") => `(tactic| first | assumption | (refine Ex.free (by assumption) ?_; walk_at "fr"))
local macro_rules | `(tactic| walk_at "rf") => `(tactic| with_unfolding_all rfl)
local macro_rules | `(tactic| walk_at "wp") => `(tactic| repeat (with_reducible first
  | refine q_seq ?_ | refine q_asg ?_ | refine q_ret ?_ | refine q_drop ?_ | refine q_if ?_ | refine q_next ?_ | refine q_par ?_ | refine q_par3 ?_ | refine q_retN ?_ | refine q_cont ?_ | refine q_brk ?_
  | refine e_var (by with_unfolding_all rfl) ?_ | refine e_c ?_ | refine e_op ?_ | refine e_cons ?_ | refine e_nil ?_ | refine e_test ?_ | refine e_B ?_ | refine e_yes ?_ | refine e_cb ?_ | refine e_call ?_ | refine e_then ?_ | refine e_tup ?_ | refine e_lst ?_
  | refine x_bl ?_ | refine i_T ?_ | refine i_F ?_ | refine x_two ?_ | refine x_three ?_
  | refine r_I0 ?_ | refine r_add ?_ | refine r_ip ?_ | refine g_nm ?_ | refine r_eqI ?_ | refine r_neI ?_ | refine r_eq (by with_unfolding_all rfl) ?_ | refine r_ne (by with_unfolding_all rfl) ?_
  | refine e_not ?_ | refine e_and ?_ | refine e_or ?_ | refine e_andV ?_ | refine e_orV ?_ | refine e_notV ?_ | refine e_ifx ?_ | refine e_idxF ?_ | refine e_idxI ?_ | refine e_sl ?_ | refine e_part ?_ | refine e_nopart ?_ | refine f_revA ?_ | refine e_lenSet ?_ | refine l_dcT ?_ | refine e_sadd ?_ | refine q_asgS ?_ | refine q_augS ?_ | refine e_tupRg ?_ | refine e_lstRg ?_ | refine e_rg1 ?_ | refine e_rg2 ?_ | refine e_dget ?_ | refine e_din ?_ | refine e_dnotin ?_ | refine e_dget2 ?_ | refine q_dput ?_ | refine e_un ?_ | refine e_chain ?_ | refine e_bm ?_ | refine e_bm0 ?_ | refine e_fld ?_ | refine q_asgT ?_
  | refine l_any ?_ | refine l_tup ?_ | refine l_list ?_ | refine l_rng1 ?_ | refine l_rng2 ?_ | refine l_str ?_ | refine l_enumL ?_ | refine l_enumT ?_ | refine l_zip ?_ | refine l_zipM ?_
  | refine f_tup ?_ | refine f_list ?_ | refine f_rng1 ?_ | refine f_enumL ?_ | refine f_enumT ?_))
local macro_rules | `(tactic| walk_at "sz") => `(tactic| first | decide | (refine small ?_; simp; done) | (refine small ?_; simp; omega) | (refine smallL ?_; simp; done) | (refine smallL ?_; simp; omega) | (simp; done) | (simp; omega))
section
variable {P : Program} {w : World} {K : PySem.W.Frag} {mg : Str → Option Value} {base : Heap} {C : Addr} {A : Nat → Addr} {FD : Nat → FuncData}
theorem crow_eff {n : Nat} {ds : Ds} (hA : AllPm n ds) {N : List Str} {cs : List Nat} (h : ∀ j (hj : j < N.length), pw n (dl n ds N[j]) (ap cs j) = idn n) : ∀ {i}, i ≤ N.length → eff n ds (crow N cs i).flat = idn n
  | 0, _ => rfl
  | i + 1, hi => by
    have ih := crow_eff hA h (i := i) (by omega)
    have hN : List.getD N i (Str.ofString "") = N[i] := by rw [List.getD_eq_getElem?_getD, List.getElem?_eq_getElem (by omega)]; rfl
    unfold crow
    split
    · rw [eff_app hA, ih, eff_pow hA, eff_nm hA, hN, h i (by omega), eff_nil, id_cmp (Ef.idn n), id_cmp (Ef.idn n)]
    · exact ih
theorem dget_T {H : Hp} {p b : Addr} {kvs : List (List Key × V)} {e : List Nat} {o : Option V} (h : H p = some (.dT kvs)) (hb : H b = some (.tup (encI e))) (hv : valV kvs (encK e) = o) : DGet H p (.ref b) o := by rw [← hv]; exact DGet.t h (by rw [encK_V]; exact hb)
theorem endB_lt {n : Nat} (h : n ≤ 24) : endB n (2 ^ n * 128) < 2 ^ 64 := by
  have h1 : (2 : Nat) ^ n ≤ 2 ^ 24 := Nat.pow_le_pow_right (by omega) h
  have h2 : 2 ^ n * 128 * n ≤ 2 ^ 24 * 128 * 24 := Nat.mul_le_mul (Nat.mul_le_mul h1 (Nat.le_refl _)) h
  have h3 : 2 ^ n * (2 ^ n * 128 * n) ≤ 2 ^ 24 * (2 ^ 24 * 128 * 24) := Nat.mul_le_mul h1 h2
  unfold endB
  omega
theorem cnt_out {N : List Str} {r : Row Str} (h : r.Names N) {x : Str} (hx : x ∉ N) : r.cnt x = 0 := by
  rw [Row.cnt_flat, List.count_eq_zero]
  exact fun m => hx (Row.names_flat h x m)
def sp_order_verdict (C0 : Addr) : Sp := fun vs H Q _ => ∃ (a : Addr) (n : Nat) (ds : Ds), vs = [.ref a] ∧ Mac C0 H a n ds ∧ Good n ds ∧
  (∀ p x y H', Ex H H' → H' p = some (.tup [.str "orderly", x, y]) → Free n ds → Q (.ref p) H') ∧
  (∀ p r1 r2 r t i j H', Ex H H' → H' p = some (.tup [.str "astray", .ref r1, .ref r2, .int (i : Nat), .int (j : Nat)]) → Rw H' r1 r → Rw H' r2 t → (∀ x, r.cnt x = t.cnt x) → r.Names (nms ds) → t.Names (nms ds) → r.depth ≤ 2 → t.depth ≤ 2 → (n ≤ 24 → r.Below (2 ^ 64) ∧ t.Below (2 ^ 64)) → i < n → j < n → ap (eff n ds r.flat) i = ap (eff n ds t.flat) i → ap (eff n ds r.flat) j ≠ ap (eff n ds t.flat) j → Q (.ref p) H')
theorem ok_order_verdict (T : Tx K mg C A FD) : (FnOk P w K mg base CX0 11 (A 39) (FD 39) ["machine"] (sp_order_verdict C)) := by
  refine T.d_order_verdict.F.ok sc_order_verdict (fun vs H Q E h => by obtain ⟨a, n, ds, rfl, hm, hg, kA, kB⟩ := h; rfl) (fun cdv A0 outer s H vs Q E hr h => ?_)
  obtain ⟨a, n, ds, rfl, hm, hg, kA, kB⟩ := h
  have hu := hu_of hr
  have hu64 := hr.units
  have hu2 : _ + 65 < cLine := (fun {A : Around} {k} (hr : Room k A) => (by have := hr.un; omega : A.units + 65 < cLine)) hr
  refine ⟨_, (pss_cons (ps_expr (pe_call (ok_need_permuting T) (hr.mono (by decide)) (by rfl) T.d_need_permuting.g T.d_need_permuting.F.kp T.d_need_permuting.b .nil pass0 (pa_cons (pv 0) pa_nil)))
    (pss_cons (ps_asg (pe_call (ok_search_mixes T) (hr.mono (by decide)) (by rfl) T.d_search_mixes.g T.d_search_mixes.F.kp T.d_search_mixes.b .nil pass0 (pa_cons (pv 0) pa_nil)) (kpg_tup K (n := 2) (by rfl) (pgs_cons (pg_name (i := 1) sc_order_verdict.nd rfl (by first | exact .inl rfl | exact .inr rfl)) (pgs_cons (pg_name (i := 2) sc_order_verdict.nd rfl (by first | exact .inl rfl | exact .inr rfl)) pgs_nil))))
    (pss_cons (ps_if (pt_cmpR op_notN (pv 2) pe_non (nomark _)) (pss_cons (ps_asg (pv 2) (kpg_tup K (n := 2) (by rfl) (pgs_cons (pg_name (i := 3) sc_order_verdict.nd rfl (by first | exact .inl rfl | exact .inr rfl)) (pgs_cons (pg_name (i := 4) sc_order_verdict.nd rfl (by first | exact .inl rfl | exact .inr rfl)) pgs_nil))))
      (pss_cons (ps_set (i := 5) sc_order_verdict.nd rfl (.inl rfl) (pe_call (ok_counted_row T) (hr.mono (by decide)) (by rfl) T.d_counted_row.g T.d_counted_row.F.kp T.d_counted_row.b .nil pass0 (pa_cons (pv 0) (pa_cons (pe_call (ok_row_counts T) (hr.mono (by decide)) (by rfl) T.d_row_counts.g T.d_row_counts.F.kp T.d_row_counts.b .nil pass0 (pa_cons (pv 4) (pa_cons (kpe_fld K (pv 0)) pa_nil))) pa_nil))))
      (pss_one (ps_ret (pe_tup (pa_cons pe_str (pa_cons (pv 4) (pa_cons (pv 5) (pa_cons (pe_call (ok_first_still T) (hr.mono (by decide)) (by rfl) T.d_first_still.g T.d_first_still.F.kp T.d_first_still.b .nil pass0 (pa_cons (pv 3) pa_nil)) (pa_cons (pe_call (ok_parted_state T) (hr.mono (by decide)) (by rfl) T.d_parted_state.g T.d_parted_state.F.kp T.d_parted_state.b .nil pass0 (pa_cons (pv 3) (pa_cons (pe_call (ok_resting_effect T) (hr.mono (by decide)) (by rfl) T.d_resting_effect.g T.d_resting_effect.F.kp T.d_resting_effect.b .nil pass0 (pa_cons (pv 0) pa_nil)) pa_nil))) pa_nil)))))))))) pss_nil)
    (pss_cons (ps_set (i := 6) sc_order_verdict.nd rfl (.inl rfl) (kpe_tupleOf K (by rfl) T.z_tuple (pe_callB (kcr_sortT K n 100 (by have := hg.two; omega)) (by rfl) T.z_sorted (by decide +kernel) (pa_cons (pe_callTy (kcall_list_dT rfl) (by rfl) T.z_list (by decide +kernel) (pa_cons (pv 1) pa_nil)) pa_nil))))
    (pss_cons (ps_set (i := 7) sc_order_verdict.nd rfl (.inr rfl) (pe_lc rfl sc_order_verdict.nd (kpi_tup K (pv 6)) (blkOk_by (own := [("mix", 8)]) (N := N_order_verdict) (sc := defScope s_order_verdict) (by decide +kernel)) (fun _ _ _ _ _ => (pg_name (i := 8) sc_order_verdict.nd rfl (by first | exact .inl rfl | exact .inr rfl))) (fun _ _ _ _ _ => pts_nil) (fun _ _ _ _ _ => (pe_call (ok_row_counts T) (hr.mono (by decide)) (by rfl) T.d_row_counts.g T.d_row_counts.F.kp T.d_row_counts.b .nil pass0 (pa_cons (pe_dget hu (pv 1) (pv 8) (fun _ _ => rfl)) (pa_cons (kpe_fld K (pv 0)) pa_nil))))))
    (pss_cons (ps_setLc (i := 9) rfl sc_order_verdict.nd rfl rfl (sw_true rfl rfl rfl (by decide +kernel)) (pi_range1 (by rfl) T.z_range (pa_cons (pe_callB (kcall_len K) (by rfl) T.z_len (by decide +kernel) (pa_cons (kpe_fld K (pv 0)) pa_nil)) pa_nil)) (blkOk_by (own := [("at", 10)]) (N := N_order_verdict) (sc := defScope s_order_verdict) (by decide +kernel)) (fun _ _ _ _ _ => (pg_name (i := 10) sc_order_verdict.nd rfl (by first | exact .inl rfl | exact .inr rfl))) (fun _ _ _ _ _ => pts_nil) (fun _ _ _ _ _ => (pe_callB (kcr_max K) (by rfl) T.z_max (by decide +kernel) (pa_cons (pe_lc rfl sc_order_verdict.nd (kpi_list K (pv 7)) (blkOk_by (own := [("counts", 12)]) (N := N_order_verdict) (by with_unfolding_all rfl)) (fun _ _ _ _ _ => (pg_name (i := 12) sc_order_verdict.nd rfl (by first | exact .inl rfl | exact .inr rfl))) (fun _ _ _ _ _ => pts_nil) (fun _ _ _ _ _ => (pe_ix (kix_tup K) (pv 12) (pv 10) (fun _ _ => rfl)))) pa_nil))))
    (pss_cons (ps_set (i := 11) sc_order_verdict.nd rfl (.inl rfl) (pe_lst pa_nil))
    (pss_cons (ps_for PassesOwn.never rfl (kpi_enumT K (by rfl) T.z_enumerate (pa_cons (pv 6) pa_nil)) (kpg_tup K (n := 2) (by rfl) (pgs_cons (pg_name (i := 10) sc_order_verdict.nd rfl (by first | exact .inl rfl | exact .inr rfl)) (pgs_cons (pg_name (i := 8) sc_order_verdict.nd rfl (by first | exact .inl rfl | exact .inr rfl)) pgs_nil))) (pss_one (ps_expr (kpe_bm K PySem.F.plainAttrs_list PySem.F.slot_list_append PySem.F.type_list_append mt_append (pv 11) (pa_cons (pe_op (kop_catA K) (pe_dget hu (pv 1) (pv 8) (fun _ _ => rfl)) (pe_call (ok_counted_row T) (hr.mono (by decide)) (by rfl) T.d_counted_row.g T.d_counted_row.F.kp T.d_counted_row.b .nil pass0 (pa_cons (pv 0) (pa_cons (pe_call (ok_lacking_counts T) (hr.mono (by decide)) (by rfl) T.d_lacking_counts.g T.d_lacking_counts.F.kp T.d_lacking_counts.b .nil pass0 (pa_cons (pv 9) (pa_cons (pe_ix (kix_list K) (pv 7) (pv 10) (fun _ _ => rfl)) pa_nil))) pa_nil)))) pa_nil)))))
    (pss_one (ps_ret (pe_tup (pa_cons pe_str (pa_cons (pv 6) (pa_cons (kpe_tupleOf K (by rfl) T.z_tuple (pv 11)) pa_nil)))))))))))))), ?_⟩
  clear hu hu64 hu2
  walk_at "wp"
  have few := hg.few
  have two := hg.two
  refine ⟨a, n, ds, rfl, hm, hg, fun H1 e1 => ?_⟩
  walk_at "wp"
  refine ⟨a, n, ds, rfl, hm.ex' e1, hg, fun p x H2 SS qs e2 hp hf hSG hfree => ?_, fun p x y H2 e2 hp hy => ?_⟩
  · refine g_two (stT hp) ?_
    walk_at "wp"
    refine ⟨rfl, ?_⟩
    walk_at "wp"
    refine i_F ?_
    walk_at "wp"
    obtain ⟨d, kvs, rfl, hd, hF⟩ := hf
    have e12 := e1.trans e2
    have hq := hSG.q
    have hqn := hq.le hg
    have eight := hg.eight
    have hlen : (nms ds).length = ds.length := by simp
    have q0 : 0 < qs.length := (List.getElem?_eq_some_iff.mp hq.first).1
    refine ⟨d, kvs, rfl, .inl hd, fun l bs hl hk => ?_⟩
    generalize hH3 : upd H2 l (.lst (bs.map V.ref)) = H3
    have e3 : Ex H2 H3 := by rw [← hH3]; exact Ex.new hl
    have l3 : H3 l = some (.lst (bs.map V.ref)) := by rw [← hH3]; exact upd_same
    clear hH3
    have hbl : bs.length = qs.length := by rw [← hk.length, hF.1]
    have hkey : ∀ x ∈ bs.map V.ref, ∃ e r b, (e, r) ∈ qs ∧ x = V.ref b ∧ H3 b = some (.tup (encI e)) := fun x hx => by
      obtain ⟨b, hb, rfl⟩ := List.mem_map.mp hx
      obtain ⟨j, hj, rfl⟩ := List.getElem_of_mem hb
      obtain ⟨w1, h1, h2⟩ := paired_at hk (List.getElem?_eq_getElem hj)
      have hj2 : j < qs.length := by omega
      obtain ⟨p', h3, h4⟩ := hF.2 j _ _ (List.getElem?_eq_getElem hj2)
      rw [h3] at h1
      cases h1
      rw [encK_V] at h2
      exact ⟨_, _, _, List.getElem_mem hj2, rfl, e3 _ _ h2⟩
    walk_at "wp"
    refine ⟨l, _, rfl, stL l3, by rw [List.length_map]; omega, fun x hx => ?_, fun ys p5 hperm _ hp5 => ?_⟩
    · obtain ⟨e, r, b, hm, rfl, hb⟩ := hkey x hx
      have pe : Pm n e := hq.pm hg hm
      refine ⟨e.map fun (n : Nat) => (n : Int), ⟨b, rfl, by rw [← encI_ints]; exact stT hb⟩, by rw [List.length_map]; exact pe.len, fun m hm2 => ?_⟩
      obtain ⟨y, hy, rfl⟩ := List.mem_map.mp hm2
      have := pe.lt y hy
      omega
    generalize hH4 : upd H3 p5 (.lst ys) = H4
    have e4 : Ex H3 H4 := by rw [← hH4]; exact Ex.new hp5
    have h4 : H4 p5 = some (.lst ys) := by rw [← hH4]; exact upd_same
    clear hH4
    have yl : ys.length = qs.length := by rw [hperm.length_eq, List.length_map, hbl]
    refine r_tupL (stL h4) fun mx H5 _ e5 h5 => ?_
    have e35 := e4.trans e5
    have hys : ∀ i x, ys[i]? = some x → ∃ e r b, (e, r) ∈ qs ∧ x = V.ref b ∧ H5 b = some (.tup (encI e)) := fun i x hx => by
      obtain ⟨e, r, b, h1, h2, h3⟩ := hkey x (hperm.mem_iff.mp (List.mem_of_getElem? hx))
      exact ⟨e, r, b, h1, h2, e35 _ _ h3⟩
    have e25 := e3.trans e35
    have e05 := e12.trans e25
    obtain ⟨dx, dd, nm, vs, hm1, hm2, hm3, hm4⟩ := (hm.ex' e05).ex
    rw [names_map] at hm4
    have hd5 := e25 _ _ hd
    have hF5 := hF.ei e25.ei
    walk_at "wp"
    refine ⟨mx, rfl, ⟨_, stT h5⟩, lc_R (fun i y H => ∃ q cs, y = V.ref q ∧ H q = some (.tup (encI cs)) ∧ cs.length = ds.length) (wk_tup (stT h5)) (by omega) (fun i y H1 H2 e ⟨q, cs, h1, h2, h3⟩ => ⟨q, cs, h1, e.tup h2, h3⟩) (fun i x H6 H7 hi e6 y R hR => ?_) fun D css0 H6 hD e6 hDl hcl hc => ?_⟩
    · obtain ⟨rfl, hx⟩ := y
      obtain ⟨e, r, b, hmem, rfl, hb⟩ := hys i x hx
      refine ⟨rfl, ?_⟩
      walk_at "wp"
      obtain ⟨j, hj, hje⟩ := List.getElem_of_mem hmem
      have hqj : qs[j]? = some (e, r) := by rw [List.getElem?_eq_getElem hj, hje]
      obtain ⟨rp, hv, hrp⟩ := (hF5.ei e6.ei).some hq.nd hqj
      refine ⟨d, _, rfl, dget_T (e6 _ _ hd5) (e6 _ _ hb) hv, ?_⟩
      walk_at "wp"
      refine ⟨a, C, dx, _, _, rfl, e6 _ _ hm1, T.cl, T.nN, rfl, ?_⟩
      walk_at "wp"
      have hrow := hq.rows j e r hqj
      refine ⟨rp, nm, r, nms ds, rfl, hrp, e6.plT hm4, hrow.names, hg.apart, by omega, hg.names, Row.below_mono (by decide) hrow.below, Nat.lt_of_le_of_lt hrow.depth (by decide), fun p7 H8 e8 h8 => ?_⟩
      exact hR _ H8 e8 ⟨p7, _, rfl, h8, by simp⟩
    · walk_at "wp"
      obtain ⟨css, hcsl, hcs⟩ : ∃ css : List (List Nat), css.length = ys.length ∧ ∀ (j : Nat) (cs : List Nat), css[j]? = some cs → ∃ q, css0[j]? = some (V.ref q) ∧ H6 q = some (.tup (encI cs)) ∧ cs.length = ds.length := listed ys.length fun j hj => by
        obtain ⟨q, cs, h1, h2, h3⟩ := hc j _ (List.getElem?_eq_getElem (by rw [hcl]; exact hj))
        exact ⟨cs, q, by rw [List.getElem?_eq_getElem (by rw [hcl]; exact hj), h1], h2, h3⟩
      have hget : ∀ (j : Nat) (v : V), css0[j]? = some v → ∃ q cs, v = V.ref q ∧ css[j]? = some cs ∧ H6 q = some (.tup (encI cs)) ∧ cs.length = ds.length := fun j v hv => by
        have hj : j < css.length := by rw [hcsl, ← hcl]; exact (List.getElem?_eq_some_iff.mp hv).1
        obtain ⟨q, h1, h2, h3⟩ := hcs j _ (List.getElem?_eq_getElem hj)
        rw [hv] at h1
        exact ⟨q, _, Option.some.inj h1, List.getElem?_eq_getElem hj, h2, h3⟩
      refine ⟨a, C, dx, _, _, rfl, e6 _ _ hm1, T.cl, T.nN, rfl, ?_⟩
      walk_at "wp"
      refine r_lenT (e6.plT hm4).sq ?_
      rw [List.length_map, hlen]
      walk_at "wp"
      refine ⟨(ds.length : Nat), rfl, by omega, by omega, lc_R (fun i y _ => ∃ m : Nat, y = V.int (m : Nat) ∧ ∀ cs ∈ css, ap cs i ≤ m) wk_range (by omega) (fun _ _ _ _ _ h => h) (fun i x H7 H8 hi e7 y R hR => ?_) fun M mys H7 hM e7 hMl hml hmm => ?_⟩
      · obtain ⟨rfl, rfl⟩ := y_rng y
        have hi2 : i < ds.length := by simpa using hi
        refine ⟨rfl, ?_⟩
        walk_at "wp"
        refine ⟨D, rfl, ⟨_, stL (e7 _ _ hDl)⟩, lc_V (encI (css.map fun cs => ap cs i)) (wk_list (stL (e7 _ _ hDl))) (by omega) (by rw [encI_len, List.length_map]; omega) (fun j x y H9 HA hy e9 hx R2 hR2 => ?_) fun D2 H9 hD2 e9 hD2l => ?_⟩
        · obtain ⟨rfl, hx⟩ := hx
          obtain ⟨q, cs, rfl, hcj, hq6, hcsd⟩ := hget j x hx
          obtain ⟨hj2, rfl⟩ := encI_at hy
          rw [List.length_map] at hj2
          refine ⟨rfl, ?_⟩
          walk_at "wp"
          refine r_ixE (n := i) (stT (e9 _ _ (e7 _ _ hq6))) (by omega) ?_
          rw [ap_mapN hj2] at hR2
          have : css[j] = cs := by
            rw [List.getElem?_eq_getElem hj2] at hcj
            exact Option.some.inj hcj
          rw [this] at hR2
          exact hR2 _ (Ex.refl _)
        · walk_at "wp"
          refine ⟨D2, css.map fun cs => ((ap cs i : Nat) : Int), rfl, stL (by rw [hD2l]; unfold encI; rw [List.map_map, List.map_map]; rfl), by rw [List.length_map]; omega, fun m hmem hall => ?_⟩
          obtain ⟨cs, hcs1, rfl⟩ := List.mem_map.mp hmem
          refine hR _ H9 e9 ⟨ap cs i, rfl, fun cs' hc' => ?_⟩
          have := hall _ (List.mem_map.mpr ⟨cs', hc', rfl⟩)
          omega
      · have hml' : mys.length = ds.length := by simpa using hml
        obtain ⟨ms, hmsl, hms⟩ : ∃ ms : List Nat, ms.length = ds.length ∧ ∀ (j m : Nat), ms[j]? = some m → mys[j]? = some (V.int (m : Nat)) ∧ ∀ cs ∈ css, ap cs j ≤ m := by
          refine listed ds.length fun j hj => ?_
          obtain ⟨m, h1, h2⟩ := hmm j _ (List.getElem?_eq_getElem (by omega))
          exact ⟨m, by rw [List.getElem?_eq_getElem (by omega), h1], h2⟩
        have hmse : mys = encI ms := List.ext_getElem? fun j => by
          by_cases hj : j < ds.length
          · obtain ⟨h1, _⟩ := hms j _ (List.getElem?_eq_getElem (by omega))
            rw [h1, encI_get (by omega)]
            have := ap_get (f := ms) (x := j) (by omega)
            rw [List.getElem?_eq_getElem (by omega)] at this
            rw [Option.some.inj this]
          · rw [List.getElem?_eq_none (by omega), List.getElem?_eq_none (by rw [encI_len]; omega)]
        rw [hmse] at hMl
        walk_at "wp"
        refine al (by walk_at "sz") fun rl H8 hrl e8 h8 => ?_
        walk_at "wp"
        have e68 := e7.trans e8
        refine ⟨mx, _, rfl, stT (e68 _ _ (e6 _ _ h5)), fr_W walk_enumT (fun i σ HA => Ex H7 HA ∧ ∃ (x8 x10 : Option V) (ws : List V), σ = [some (.ref a), some (.ref d), some .non, none, none, none, some (.ref mx), some (.ref D), x8, some (.ref M), x10, some (.ref rl), none] ∧ HA rl = some (.lst ws) ∧ ws.length ≤ i)
          ⟨e8, _, _, [], rfl, h8, Nat.zero_le _⟩ (fun i σ HA hi h => stT (h.1 _ _ (e7 _ _ (e6 _ _ h5)))) (fun i x σ HA HB hi h y => ?_) (fun σ HA h => ?_)⟩
        · obtain ⟨eA, x8, x10, wsr, rfl, hrA, hwl⟩ := h
          obtain ⟨t, u, v, rfl, hu, hv, ht, eB⟩ := yp_get y
          cases hu
          obtain ⟨e, r, b, hmem, rfl, hb⟩ := hys i v hv
          have e5A := (e6.trans e7).trans eA
          have e5B := e5A.trans eB
          obtain ⟨j, hj, hje⟩ := List.getElem_of_mem hmem
          have hqj : qs[j]? = some (e, r) := by rw [List.getElem?_eq_getElem hj, hje]
          have hrow := hq.rows j e r hqj
          obtain ⟨rp, hv2, us, hus1, hus2⟩ := (hF5.ei e5B.ei).some hq.nd hqj
          refine g_two (stT ht) ?_
          walk_at "wp"
          refine ty_list (stL (eB _ _ hrA)) ?_
          walk_at "wp"
          refine ⟨d, _, rfl, dget_T (e5B _ _ hd5) (e5B _ _ hb) hv2, ?_⟩
          walk_at "wp"
          have hi2 : i < css.length := by rw [hcsl]; exact hi
          obtain ⟨cq, hc1, hc2, hc3⟩ := hcs i _ (List.getElem?_eq_getElem hi2)
          have e6B := (e7.trans eA).trans eB
          refine r_ixL (n := i) (stL (e6B _ _ hDl)) (atI_ok hc1) ?_
          walk_at "wp"
          refine ⟨M, cq, ms, _, rfl, (eA.trans eB) _ _ hMl, e6B _ _ hc2, by omega, by omega, fun j hj => ?_, fun p9 H9 e9 h9 => ?_⟩
          · obtain ⟨_, h2⟩ := hms j _ (List.getElem?_eq_getElem hj)
            have h3 := h2 _ (List.getElem_mem hi2)
            have := ap_get hj
            rw [List.getElem?_eq_getElem hj] at this
            rw [← Option.some.inj this]
            exact h3
          walk_at "wp"
          have e5X := e5B.trans e9
          refine ⟨a, p9, n, ds, _, rfl, hm.ex' (e05.trans e5X), hg, h9, by rw [subL_len]; omega, fun pc HC eC ⟨cw, hC1, hC2⟩ => ?_⟩
          walk_at "wp"
          have e9C := e9.trans eC
          have hul := hus2.len
          have hcl2 := hC2.len
          have hcl3 := crow_len (nms ds) (subL ms css[i]) ds.length
          have hrl2 : r.items.length ≤ 260 * 49 := Nat.le_trans hrow.len (Nat.mul_le_mul (Nat.le_refl _) (by omega))
          refine r_catT (stT (e9C _ _ hus1)) (stT hC1) (small (by omega)) (e9C _ _ hus1) hC1 fun pz HD eD hD => ?_
          walk_at "wp"
          have eBD := e9C.trans eD
          refine r_app (eBD _ _ (eB _ _ hrA)) (smallL (by omega)) fun HE mE hE => ?_
          refine ⟨(((eA.trans eB).trans eBD).mu mE hrl), _, _, _, rfl, hE, by rw [List.length_append, List.length_singleton]; omega⟩
        · obtain ⟨eA, x8, x10, wsr, rfl, hrA, hwl⟩ := h
          walk_at "wp"
          refine r_tupL (stL hrA) fun pr H9 _ e9 h9 => ?_
          walk_at "wp"
          refine al (by walk_at "sz") fun pf HB hpf eB hB => ?_
          exact kA pf _ _ HB ((((e05.trans e6).trans e7).trans eA).trans (e9.trans eB)) hB hfree
  · refine g_two (stT hp) ?_
    walk_at "wp"
    obtain ⟨q, e, r, s, rfl, ⟨ea, ra, hq, hea, hra⟩, hrow, hne, hs, hfix⟩ := hy
    refine ⟨rfl, ?_⟩
    walk_at "wp"
    refine i_T ?_
    walk_at "wp"
    refine g_two (stT hq) ?_
    walk_at "wp"
    have e12 := e1.trans e2
    obtain ⟨dx, d, nm, vs, hm1, hm2, hm3, hm4⟩ := (hm.ex' e12).ex
    rw [names_map] at hm4
    have hlen : (nms ds).length = ds.length := by simp
    have eight := hg.eight
    refine ⟨a, C, dx, _, _, rfl, hm1, T.cl, T.nN, rfl, ?_⟩
    walk_at "wp"
    have pe : Pm n e := by rw [← hrow.eff]; exact eff_pm hg.perm _
    refine ⟨ra, nm, r, nms ds, rfl, hra, hm4, hrow.names, hg.apart, by omega, hg.names, Row.below_mono (by decide) hrow.below, Nat.lt_of_le_of_lt hrow.depth (by decide), fun p3 H3 e3 h3 => ?_⟩
    walk_at "wp"
    refine ⟨a, p3, n, ds, (nms ds).map fun x => r.cnt x, rfl, hm.ex' (e12.trans e3), hg, h3, by simp, fun p4 H4 e4 h4 => ?_⟩
    walk_at "wp"
    have e34 := e3.trans e4
    refine ⟨ea, e, rfl, e34 _ _ hea, fun i H5 e5 hi hif => ?_, fun H5 e5 hno => absurd hfix (hno s (by rw [pe.len]; exact hs))⟩
    walk_at "wp"
    have e35 := e34.trans e5
    refine ⟨a, n, ds, rfl, hm.ex' (e12.trans e35), by omega, fun p6 H6 e6 h6 => ?_⟩
    walk_at "wp"
    refine ⟨ea, p6, e, idn n, rfl, e6 _ _ (e35 _ _ hea), h6, by rw [pe.len, idn_len], by rw [pe.len]; omega, fun j hj hjne => ?_, fun h => absurd h hne⟩
    walk_at "wp"
    rw [pe.len] at hi hj
    refine al (by walk_at "sz") fun p7 H7 hp7 e7 h7 => ?_
    have e37 := (e35.trans e6).trans e7
    have ht : eff n ds (crow (nms ds) ((nms ds).map fun x => r.cnt x) ds.length).flat = idn n := crow_eff hg.perm (fun j hj => by rw [ap_mapN hj]; exact hrow.bal _) (by omega)
    refine kB p7 ra p4 r _ i j H7 (e12.trans e37) h7 (hra.ex e37) (h4.ex ((e5.trans e6).trans e7)) (fun x => ?_) hrow.names (crow_names (by omega)) hrow.depth (Nat.le_trans (crow_depth _ _ _) (by decide)) (fun h24 => ⟨Row.below_mono (by decide) hrow.below, crow_below (fun c hc => ?_) (by simp)⟩) hi hj ?_ ?_
    · by_cases hx : x ∈ nms ds
      · obtain ⟨j, hj, rfl⟩ := List.getElem_of_mem hx
        rw [← hlen, crow_cnt hg.apart (Nat.le_refl _) hj, if_pos hj, ap_mapN hj]
      · rw [cnt_out hrow.names hx, crow_cnt0 hx (by omega)]
    · obtain ⟨x, _, rfl⟩ := List.mem_map.mp hc
      exact Nat.lt_of_le_of_lt (hrow.cnt x) (endB_lt h24)
    · rw [ht, hrow.eff, hif, ap_idn hi]
    · rw [ht, hrow.eff]
      exact hjne

end
end Eo
namespace Eo
open PySem PyProof.Rows L2 L2.DX
/-! words of the walk: wp goes on where nothing is open; hl looks an object up; ex: what stood stands -/
local macro_rules | `(tactic| walk_at "hl") => `(tactic| first | assumption | exact PlT.sq (by assumption) | (refine stT ?_; walk_at "hl") | (refine stL ?_; walk_at "hl") | (refine Ex.at (by assumption) ?_; walk_at "hl") | (refine Mu.tup (by assumption) ?_; walk_at "hl") | (refine Ex.sqT (by assumption) ?_; walk_at "hl") | (refine Ex.sqL (by assumption) ?_; walk_at "hl") | (refine Ex.plT (by assumption) ?_; walk_at "hl") | (refine Mu.plT (by assumption) ?_; walk_at "hl"))
local macro_rules | `(tactic| walk_at "ex") => `(tactic| first | assumption | exact Ex.refl _ | (refine Ex.trans ?_ (by assumption); walk_at "ex") | (refine Ex.mu ?_ (by assumption) (by first | assumption | walk_at "fr"); walk_at "ex"))
local macro_rules | `(tactic| walk_at "fr") => `(tactic| first | assumption | (refine Ex.free (by assumption) ?_; walk_at "fr"))
local macro_rules | `(tactic| walk_at "rf") => `(tactic| with_unfolding_all rfl)
local macro_rules | `(tactic| walk_at "wp") => `(tactic| repeat (with_reducible first
  | refine q_seq ?_ | refine q_asg ?_ | refine q_ret ?_ | refine q_drop ?_ | refine q_if ?_ | refine q_next ?_ | refine q_par ?_ | refine q_par3 ?_ | refine q_retN ?_ | refine q_cont ?_ | refine q_brk ?_
  | refine e_var (by with_unfolding_all rfl) ?_ | refine e_c ?_ | refine e_op ?_ | refine e_cons ?_ | refine e_nil ?_ | refine e_test ?_ | refine e_B ?_ | refine e_yes ?_ | refine e_cb ?_ | refine e_call ?_ | refine e_then ?_ | refine e_tup ?_ | refine e_lst ?_
  | refine x_bl ?_ | refine i_T ?_ | refine i_F ?_ | refine x_two ?_ | refine x_three ?_
  | refine r_I0 ?_ | refine r_add ?_ | refine r_ip ?_ | refine g_nm ?_ | refine r_eqI ?_ | refine r_neI ?_ | refine r_eq (by with_unfolding_all rfl) ?_ | refine r_ne (by with_unfolding_all rfl) ?_
  | refine e_not ?_ | refine e_and ?_ | refine e_or ?_ | refine e_andV ?_ | refine e_orV ?_ | refine e_notV ?_ | refine e_ifx ?_ | refine e_idxF ?_ | refine e_idxI ?_ | refine e_sl ?_ | refine e_part ?_ | refine e_nopart ?_ | refine f_revA ?_ | refine e_lenSet ?_ | refine l_dcT ?_ | refine e_sadd ?_ | refine q_asgS ?_ | refine q_augS ?_ | refine e_tupRg ?_ | refine e_lstRg ?_ | refine e_rg1 ?_ | refine e_rg2 ?_ | refine e_dget ?_ | refine e_din ?_ | refine e_dnotin ?_ | refine e_dget2 ?_ | refine q_dput ?_ | refine e_un ?_ | refine e_chain ?_ | refine e_bm ?_ | refine e_bm0 ?_ | refine e_fld ?_ | refine q_asgT ?_
  | refine l_any ?_ | refine l_tup ?_ | refine l_list ?_ | refine l_rng1 ?_ | refine l_rng2 ?_ | refine l_str ?_ | refine l_enumL ?_ | refine l_enumT ?_ | refine l_zip ?_ | refine l_zipM ?_
  | refine f_tup ?_ | refine f_list ?_ | refine f_rng1 ?_ | refine f_enumL ?_ | refine f_enumT ?_))
local macro_rules | `(tactic| walk_at "sz") => `(tactic| first | decide | (refine small ?_; simp; done) | (refine small ?_; simp; omega) | (refine smallL ?_; simp; done) | (refine smallL ?_; simp; omega) | (simp; done) | (simp; omega))
section
variable {P : Program} {w : World} {K : PySem.W.Frag} {mg : Str → Option Value} {base : Heap} {C : Addr} {A : Nat → Addr} {FD : Nat → FuncData}
/-- a list or a tuple -/
def LT (H : Hp) (q : Addr) (xs : List V) : Prop := H q = some (.lst xs) ∨ H q = some (.tup xs)
theorem LT.ex {H H' : Hp} {q : Addr} {xs : List V} (h : LT H q xs) (e : Ex H H') : LT H' q xs := h.imp (e _ _) (e _ _)
theorem LT.sq {K : PySem.W.Frag} {H : Hp} {q : Addr} {xs : List V} (h : LT H q xs) : SqL K H q xs ∨ SqT K H q xs := h.imp stL stT
theorem l_any {K : PySem.W.Frag} {ta : TE} {σ : L2.St} {H : Hp} {Q : VK} {g : TG} {tt : TT} {te : TE} {vs : List Nat} (h : ta σ H fun x H1 => ∃ a, x = .ref a ∧ (((∃ xs, SqL K H1 a xs) ∧ Lc (Itl K a) g tt te vs σ H1 Q) ∨ ((∃ xs, SqT K H1 a xs) ∧ Lc (Itt K a) g tt te vs σ H1 Q))) : tLc (iAny K ta) g tt te vs σ H Q := h
theorem r_any {K : PySem.W.Frag} {a : Addr} {xs : List V} {H : Hp} {P : It → Prop} (h : LT H a xs) (k : ∀ J, Wk J xs.length H (YAt xs) → P J) : ((∃ xs, SqL K H a xs) ∧ P (Itl K a)) ∨ ((∃ xs, SqT K H a xs) ∧ P (Itt K a)) := by
  rcases h with h | h
  · exact .inl ⟨⟨_, stL h⟩, k _ (wk_list (stL h))⟩
  · exact .inr ⟨⟨_, stT h⟩, k _ (wk_tup (stT h))⟩
theorem r_lenLT {K : PySem.W.Frag} {H : Hp} {Q : VK} {p : Addr} {xs : List V} (h : LT H p xs) (k : Q (.int xs.length) H) : rLen K [.ref p] H Q := ⟨p, xs, rfl, h.sq, k⟩
theorem inV_strs {z : Str} {N : List Str} : inV (.str z) (N.map V.str) = decide (z ∈ N) := by
  unfold inV
  rw [List.any_map]
  by_cases h : z ∈ N
  · rw [decide_eq_true h, List.any_eq_true]
    exact ⟨z, h, by simp [L2.eqV]⟩
  · rw [decide_eq_false h, List.any_eq_false]
    intro y hy e
    simp [L2.eqV] at e
    subst e
    exact h hy
theorem r_inS {K : PySem.W.Frag} {H : Hp} {Q : VK} {b : Addr} {z : Str} {N : List Str} (h : SqL K H b (N.map V.str) ∨ SqT K H b (N.map V.str)) (k : Q (.bl (decide (z ∈ N))) H) : rIn K false (.str z) (.ref b) H Q :=
  ⟨b, _, rfl, h, rfl, flat_strs N, by simp only [if_neg Bool.false_ne_true, inV_strs]; exact k⟩
theorem r_ninS {K : PySem.W.Frag} {H : Hp} {Q : VK} {b : Addr} {z : Str} {N : List Str} (h : SqL K H b (N.map V.str) ∨ SqT K H b (N.map V.str)) (k : Q (.bl (!decide (z ∈ N))) H) : rIn K true (.str z) (.ref b) H Q :=
  ⟨b, _, rfl, h, rfl, flat_strs N, by simp only [if_true, inV_strs]; exact k⟩
/-! deeds as data -/
def dsD (ds : Ds) : List PyData := ds.map fun p => .tuple [.str p.1, .tuple ((p.2.map fun (n : Nat) => (n : Int)).map PyData.int)]
theorem dp_deeds {K : PySem.W.Frag} {H : Hp} : ∀ {vs : List V} {ds : Ds}, DeedsAt H vs ds → DpAll K H vs (dsD ds)
  | [], [], _ => .nil
  | [], _ :: _, h => by cases h.1
  | _ :: _, [], h => by cases h.1
  | v :: vs, (x, f) :: ds, h => by
    obtain ⟨p, q, h1, h2, h3⟩ := h.2 0 x f rfl
    cases h1
    refine .cons (.tup (stT h2) (.cons (.str _) (.cons (.tup (stT h3) ?_) .nil))) (dp_deeds ⟨Nat.succ.inj h.1, fun i y g hi => h.2 (i + 1) y g hi⟩)
    rw [encI_ints]
    exact dp_ints _
theorem lay_deeds : ∀ {ds : Ds}, (∀ p ∈ ds, isName p.1) → PyData.canLayAll0 (dsD ds) = true ∧ PyData.depthAll (dsD ds) ≤ 2
  | [], _ => ⟨rfl, by simp [dsD, PyData.depthAll]⟩
  | (x, f) :: ds, h => by
    have ih := lay_deeds fun p hp => h p (List.mem_cons_of_mem _ hp)
    have h1 := (h _ (List.mem_cons_self ..)).ok
    have h2 := lay_ints (f.map fun (n : Nat) => (n : Int))
    refine ⟨?_, ?_⟩
    · show PyData.canLayAll0 (.tuple [.str x, .tuple _] :: dsD ds) = true
      simp only [PyData.canLayAll0, PyData.canLay0, h1, h2.1, ih.1, Bool.and_self]
    · show PyData.depthAll (.tuple [.str x, .tuple _] :: dsD ds) ≤ 2
      simp only [PyData.depthAll, PyData.depth, h2.2]
      omega
theorem r_neNil {K : PySem.W.Frag} {H : Hp} {Q : VK} {a b : Addr} {vs : List V} {ds : Ds} (ha : SqL K H a vs) (hd : DeedsAt H vs ds) (hn : ∀ p ∈ ds, isName p.1) (hb : SqL K H b []) (k : Q (.bl (decide (ds ≠ []))) H) : rNeD K (.ref a) (.ref b) H Q := by
  have hl := lay_deeds hn
  refine ⟨.list (dsD ds), .list [], .lst ha (dp_deeds hd), .lst hb .nil, ?_, by decide, ?_⟩
  · unfold SeqAt.shaped
    simp only [PyData.canLay0, hl.1, PyData.depth, Bool.true_and]
    exact decide_eq_true (by omega)
  · have : (!PyData.eqv (.list (dsD ds)) (.list [])) = decide (ds ≠ []) := by
      cases ds with
      | nil => rfl
      | cons p ds =>
        simp only [PyData.eqv]
        show (!PyData.eqvAll (_ :: dsD ds) []) = _
        simp [PyData.eqvAll]
    rw [this]
    exact k
def sp_is_deed : Sp := fun vs H Q _ => ∃ (a b q : Addr) (x : Str) (f : List Nat) (ws : List V) (ds : Ds), vs = [.ref a, .ref b] ∧ H a = some (.tup [.str x, .ref q]) ∧ LT H q (encI f) ∧ isName x ∧ H b = some (.lst ws) ∧ DeedsAt H ws ds ∧ (∀ p ∈ ds, isName p.1) ∧ ds.length ≤ 8 ∧ x ∉ nms ds ∧ 2 ≤ f.length ∧ f.length ≤ 49 ∧ (∀ y ∈ f, y < f.length) ∧ (∀ p ∈ ds, p.2.length = f.length) ∧ ∀ H', Ex H H' → Q (.bl true) H'
theorem ok_is_deed (T : Tx K mg C A FD) : (FnOk P w K mg base CX0 3 (A 12) (FD 12) ["value", "earlier"] sp_is_deed) := by
  refine T.d_is_deed.F.ok sc_is_deed (fun vs H Q E h => by obtain ⟨a, b, q, x, f, ws, ds, rfl, ha, hq, hx, hb, hd, hn, h8, hnx, h2, h49, hlt, hlen, k⟩ := h; rfl) (fun cdv A0 outer s H vs Q E hr h => ?_)
  obtain ⟨a, b, q, x, f, ws, ds, rfl, ha, hq, hx, hb, hd, hn, h8, hnx, h2, h49, hlt, hlen, k⟩ := h
  obtain ⟨_, g_MOST_STATES⟩ := T.g_MOST_STATES
  have hu := hu_of hr
  have hu64 := hr.units
  have hu2 : _ + 65 < cLine := (fun {A : Around} {k} (hr : Room k A) => (by have := hr.un; omega : A.units + 65 < cLine)) hr
  refine ⟨_, (pss_cons (ps_if (PW.pt (pw_or (pt_not (pt_val (pe_callB (kcall_isi K) (by rfl) T.z_isinstance (by decide +kernel) (pa_cons (pv 0) (pa_cons (pe_bltn (v := .ty "tuple") (by rfl) T.z_tuple (by decide +kernel) rfl) pa_nil))))) (pw_or (pt_cmpR op_ne (pe_callB (kcall_len K) (by rfl) T.z_len (by decide +kernel) (pa_cons (pv 0) pa_nil)) pe_int (nomark _)) (pw_or1 (pt_not (pt_val (pe_call (ok_is_name T) (hr.mono (by decide)) (by rfl) T.d_is_name.g T.d_is_name.F.kp T.d_is_name.b .nil pass0 (pa_cons (pe_ix (kix_tup K) (pv 0) pe_int (fun _ _ => rfl)) pa_nil)))))))) (pss_one (ps_ret pe_bl)) pss_nil)
    (pss_cons (ps_asg (pv 0) (kpg_tup K (n := 2) (by rfl) (pgs_cons (pg_name (i := 2) sc_is_deed.nd rfl (by first | exact .inl rfl | exact .inr rfl)) (pgs_cons (pg_name (i := 3) sc_is_deed.nd rfl (by first | exact .inl rfl | exact .inr rfl)) pgs_nil))))
    (pss_cons (ps_if (PW.pt (pw_or (pt_cmpR (kop_in K) (pv 2) (pe_lc rfl sc_is_deed.nd (kpi_list K (pv 1)) (blkOk_by (own := [("deed", 5)]) (N := N_is_deed) (sc := defScope s_is_deed) (by decide +kernel)) (fun _ _ _ _ _ => (pg_name (i := 5) sc_is_deed.nd rfl (by first | exact .inl rfl | exact .inr rfl))) (fun _ _ _ _ _ => pts_nil) (fun _ _ _ _ _ => (pe_ix (kix_tup K) (pv 5) pe_int (fun _ _ => rfl)))) rfl) (pw_or1 (pt_not (pt_val (pe_call (ok_is_sequence T) (hr.mono (by decide)) (by rfl) T.d_is_sequence.g T.d_is_sequence.F.kp T.d_is_sequence.b .nil pass0 (pa_cons (pv 3) pa_nil))))))) (pss_one (ps_ret pe_bl)) pss_nil)
    (pss_cons (ps_if (PW.pt (pw_or (pt_not (pt_chain op_le op_le pe_int (pe_callB (kcall_len K) (by rfl) T.z_len (by decide +kernel) (pa_cons (pv 3) pa_nil)) (pe_glob (v := .int 49) (by rfl) g_MOST_STATES ⟨_, rfl⟩))) (pw_or1 (PW.pt (pw_and (pt_cmpR (kop_neD K hu64) (pv 1) (pe_lst pa_nil) (nomark _)) (pw_and1 (pt_cmpR op_ne (pe_callB (kcall_len K) (by rfl) T.z_len (by decide +kernel) (pa_cons (pv 3) pa_nil)) (pe_callB (kcall_len K) (by rfl) T.z_len (by decide +kernel) (pa_cons (pe_ix (kix_tup K) (pe_ix (kix_list K) (pv 1) pe_int (fun _ _ => rfl)) pe_int (fun _ _ => rfl)) pa_nil)) (nomark _)))))))) (pss_one (ps_ret pe_bl)) pss_nil)
    (pss_one (ps_ret (pe_callB (kcr_all K) (by rfl) T.z_all (by decide +kernel) (pa_cons (pe_lc rfl sc_is_deed.nd (kpi_any K (pv 3)) (blkOk_by (own := [("image", 4)]) (N := N_is_deed) (sc := defScope s_is_deed) (by decide +kernel)) (fun _ _ _ _ _ => (pg_name (i := 4) sc_is_deed.nd rfl (by first | exact .inl rfl | exact .inr rfl))) (fun _ _ _ _ _ => pts_nil) (fun _ _ _ _ _ => (pe_call (ok_is_below T) (hr.mono (by decide)) (by rfl) T.d_is_below.g T.d_is_below.F.kp T.d_is_below.b .nil pass0 (pa_cons (pv 4) (pa_cons (pe_callB (kcall_len K) (by rfl) T.z_len (by decide +kernel) (pa_cons (pv 3) pa_nil)) pa_nil))))) pa_nil)))))))), ?_⟩
  clear hu hu64 hu2
  walk_at "wp"
  refine r_isi (ty_tup ha) (r := true) (by decide +kernel) ?_
  walk_at "wp"
  refine i_F ?_
  walk_at "wp"
  refine r_lenT (stT ha) ?_
  walk_at "wp"
  refine i_nF rfl ?_
  walk_at "wp"
  refine r_ixT (n := 0) (stT ha) rfl ?_
  walk_at "wp"
  refine ⟨x, rfl, hx, fun H1 e1 => ?_⟩
  walk_at "wp"
  refine i_F ?_
  walk_at "wp"
  refine g_two (stT (e1 _ _ ha)) ?_
  walk_at "wp"
  refine ⟨b, rfl, ⟨_, stL (e1 _ _ hb)⟩, lc_V ((nms ds).map V.str) (wk_list (stL (e1 _ _ hb))) (by rw [hd.1]; omega) (by rw [List.length_map, List.length_map, hd.1]) (fun i y z H2 H3 hz e hy R hR => ?_) fun D H2 hD e2 hDl => ?_⟩
  · obtain ⟨rfl, hy⟩ := hy
    obtain ⟨x', f', p, q', hi, rfl, hp, _⟩ := (hd.ei (e1.trans e).ei).get hy
    refine ⟨rfl, ?_⟩
    walk_at "wp"
    refine r_ixT (n := 0) (stT hp) rfl ?_
    rw [List.getElem?_map, List.getElem?_map, hi] at hz
    cases hz
    exact hR _ (Ex.refl _)
  walk_at "wp"
  refine r_inS (.inl (stL hDl)) ?_
  walk_at "wp"
  refine i_dF hnx ?_
  walk_at "wp"
  have e12 := e1.trans e2
  refine ⟨q, encI f, rfl, hq.ex e12, fun H3 e3 => ?_⟩
  walk_at "wp"
  refine i_F ?_
  walk_at "wp"
  have e13 := e12.trans e3
  refine r_lenLT (hq.ex e13) ?_
  rw [encI_len]
  walk_at "wp"
  refine i_dT (by omega) ?_
  walk_at "wp"
  refine i_nF (by omega) ?_
  walk_at "wp"
  refine al (by walk_at "sz") fun nl H4 hnl e4 h4 => ?_
  have e14 := e13.trans e4
  refine r_neNil (stL (e14 _ _ hb)) (hd.ei e14.ei) hn (stL h4) ?_
  walk_at "wp"
  have last : ∀ H5, Ex H4 H5 → tRet (tCB (rAll K) (tCons (tLc (iAny K (tVar 3)) (gName 4) tYes (tCall sp_is_below [] E0 (tCons (tVar 4) (tCons (tCB (rLen K) (tCons (tVar 3) tNil)) tNil))) (List.map (fun x => x.2) [(Str.ofString "image", 4)])) tNil)) { nx := fun x H' => Q V.non H', rt := Q } [some (.ref a), some (.ref b), some (.str x), some (.ref q), none, none] H5 := fun H5 e5 => by
    walk_at "wp"
    have e15 := e14.trans e5
    have hq5 := hq.ex e15
    refine l_any ?_
    walk_at "wp"
    refine ⟨q, rfl, r_any hq5 fun J wJ => lc_V (List.replicate f.length (.bl true)) wJ (by rw [encI_len]; omega) (by rw [encI_len, List.length_replicate]) (fun i y z H6 H7 hz e hy R hR => ?_) fun D H6 hD e6 hDl => ?_⟩
    · obtain ⟨rfl, hy⟩ := hy
      obtain ⟨hi, rfl⟩ := encI_at hy
      refine ⟨rfl, ?_⟩
      walk_at "wp"
      refine r_lenLT (hq5.ex e) ?_
      rw [encI_len]
      walk_at "wp"
      refine ⟨_, _, rfl, ?_⟩
      have h1 := hlt _ (ap_mem hi)
      rw [decide_eq_true (by omega)]
      have hz2 : z = .bl true := (List.mem_replicate.mp (List.mem_of_getElem? hz)).2
      subst hz2
      exact hR _ (Ex.refl _)
    · walk_at "wp"
      refine ⟨D, List.replicate f.length true, rfl, stL (by rw [hDl, List.map_replicate]), ?_⟩
      have : (List.replicate f.length true).all id = true := by simp
      rw [this]
      exact k _ (e15.trans e6)
  refine i_d (fun hds => ?_) (fun hds => ?_)
  · walk_at "wp"
    refine r_lenLT (hq.ex e14) ?_
    rw [encI_len]
    walk_at "wp"
    cases ds with
    | nil => exact absurd rfl hds
    | cons p ds =>
      obtain ⟨y, g⟩ := p
      obtain ⟨pp, qq, g1, g2, g3⟩ := (hd.ei e14.ei).2 0 y g rfl
      refine r_ixL (n := 0) (stL (e14 _ _ hb)) (atI_ok (n := 0) g1) ?_
      walk_at "wp"
      refine r_ixT (n := 1) (stT g2) rfl ?_
      walk_at "wp"
      refine r_lenT (stT g3) ?_
      rw [encI_len, hlen (y, g) (List.mem_cons_self ..)]
      walk_at "wp"
      refine i_nF rfl ?_
      walk_at "wp"
      exact last _ (Ex.refl _)
  · walk_at "wp"
    exact last _ (Ex.refl _)

/-- what a machine is made of -/
def InDeeds (H : Hp) (vs : List V) (ds : Ds) : Prop := vs.length = ds.length ∧ ∀ (i : Nat) (x : Str) (f : List Nat), ds[i]? = some (x, f) → ∃ p q, vs[i]? = some (.ref p) ∧ H p = some (.tup [.str x, .ref q]) ∧ LT H q (encI f)
theorem InDeeds.ex {H H' : Hp} {vs : List V} {ds : Ds} (h : InDeeds H vs ds) (e : Ex H H') : InDeeds H' vs ds := ⟨h.1, fun i x f hi => let ⟨p, q, h1, h2, h3⟩ := h.2 i x f hi; ⟨p, q, h1, e _ _ h2, h3.ex e⟩⟩
theorem InDeeds.get {H : Hp} {vs : List V} {ds : Ds} (h : InDeeds H vs ds) {i : Nat} {v : V} (e : vs[i]? = some v) : ∃ x f p q, ds[i]? = some (x, f) ∧ v = .ref p ∧ H p = some (.tup [.str x, .ref q]) ∧ LT H q (encI f) := by
  have hi : i < ds.length := by rw [← h.1]; exact (List.getElem?_eq_some_iff.mp e).1
  obtain ⟨p, q, h1, h2, h3⟩ := h.2 i _ _ (List.getElem?_eq_getElem hi)
  rw [e] at h1
  exact ⟨_, _, p, q, List.getElem?_eq_getElem hi, Option.some.inj h1, h2, h3⟩
theorem r_tupLT {K : PySem.W.Frag} {H : Hp} {Q : VK} {p : Addr} {xs : List V} (h : LT H p xs) (k : ∀ q H1, Ex H H1 → H1 q = some (.tup xs) → Q (.ref q) H1) : kTup K (.ref p) H Q := by
  rcases h with h | h
  · exact r_tupL (stL h) fun q H1 _ e h1 => k q H1 e h1
  · exact .inr ⟨p, xs, rfl, stT h, k p H (Ex.refl _) h⟩
theorem r_tupF {K : PySem.W.Frag} {H : Hp} {Q : VK} {p : Addr} {xs : List V} (h : SqL K H p xs) (k : ∀ q H1, Ex H H1 → PlT H1 q xs → Q (.ref q) H1) : kTupF K (.ref p) H Q :=
  ⟨p, xs, rfl, h, fun q o h1 h2 hq => k q _ (Ex.new hq) ⟨o, upd_same, h1, h2⟩⟩
def sp_Machine_init (C0 : Addr) : Sp := fun vs H Q _ => ∃ (m l dx : Addr) (n : Nat) (ds : Ds) (ws : List V), vs = [.ref m, .ref l] ∧ H m = some (.ins C0 dx []) ∧ H l = some (.lst ws) ∧ InDeeds H ws ds ∧ Good n ds ∧ ∀ H', Mu m H H' → Mac C0 H' m n ds → Q .non H'
theorem ok_Machine_init (T : Tx K mg C A FD) : (FnOk P w K mg base CX0 4 (A 13) (FD 13) ["self", "deeds"] (sp_Machine_init C)) := by
  refine T.d_Machine_init.F.ok sc_Machine_init (fun vs H Q E h => by obtain ⟨m, l, dx, n, ds, ws, rfl, hm, hl, hd, hg, k⟩ := h; rfl) (fun cdv A0 outer s H vs Q E hr h => ?_)
  obtain ⟨m, l, dx, n, ds, ws, rfl, hm, hl, hd, hg, k⟩ := h
  obtain ⟨_, g_MOST_DEEDS⟩ := T.g_MOST_DEEDS
  have hu := hu_of hr
  have hu64 := hr.units
  have hu2 : _ + 65 < cLine := (fun {A : Around} {k} (hr : Room k A) => (by have := hr.un; omega : A.units + 65 < cLine)) hr
  refine ⟨_, (pss_cons (ps_if (PW.pt (pw_or (pt_not (pt_val (pe_call (ok_is_sequence T) (hr.mono (by decide)) (by rfl) T.d_is_sequence.g T.d_is_sequence.F.kp T.d_is_sequence.b .nil pass0 (pa_cons (pv 1) pa_nil)))) (pw_or1 (pt_not (pt_chain op_le op_le pe_int (pe_callB (kcall_len K) (by rfl) T.z_len (by decide +kernel) (pa_cons (pv 1) pa_nil)) (pe_glob (v := .int 8) (by rfl) g_MOST_DEEDS ⟨_, rfl⟩)))))) (pss_one ps_never) pss_nil)
    (pss_cons (ps_set (i := 2) sc_Machine_init.nd rfl (.inl rfl) (pe_lst pa_nil))
    (pss_cons (ps_for PassesOwn.never rfl (kpi_enum K (by rfl) T.z_enumerate (pa_cons (pv 1) pa_nil)) (kpg_tup K (n := 2) (by rfl) (pgs_cons (pg_name (i := 3) sc_Machine_init.nd rfl (by first | exact .inl rfl | exact .inr rfl)) (pgs_cons (pg_name (i := 4) sc_Machine_init.nd rfl (by first | exact .inl rfl | exact .inr rfl)) pgs_nil))) (pss_cons (ps_if (pt_not (pt_val (pe_call (ok_is_deed T) (hr.mono (by decide)) (by rfl) T.d_is_deed.g T.d_is_deed.F.kp T.d_is_deed.b .nil pass0 (pa_cons (pv 4) (pa_cons (pv 2) pa_nil))))) (pss_one ps_never) pss_nil)
      (pss_one (ps_expr (kpe_bm K PySem.F.plainAttrs_list PySem.F.slot_list_append PySem.F.type_list_append mt_append (pv 2) (pa_cons (pe_tup (pa_cons (pe_ix (kix_tup K) (pv 4) pe_int (fun _ _ => rfl)) (pa_cons (kpe_tupleOf K (by rfl) T.z_tuple (pe_ix (kix_tup K) (pv 4) pe_int (fun _ _ => rfl))) pa_nil))) pa_nil))))))
    (pss_cons (kps_fld K (pv 0) (kpe_tupleF K (by rfl) T.z_tuple (pv 2)) rfl)
    (pss_cons (kps_fld K (pv 0) (kpe_tupleF K (by rfl) T.z_tuple (pe_lc rfl sc_Machine_init.nd (kpi_list K (pv 2)) (blkOk_by (own := [("deed", 4)]) (N := N_Machine_init) (sc := defScope s_Machine_init) (by decide +kernel)) (fun _ _ _ _ _ => (pg_name (i := 4) sc_Machine_init.nd rfl (by first | exact .inl rfl | exact .inr rfl))) (fun _ _ _ _ _ => pts_nil) (fun _ _ _ _ _ => (pe_ix (kix_tup K) (pv 4) pe_int (fun _ _ => rfl))))) rfl)
    (pss_one (kps_fld K (pv 0) (pe_callB (kcall_len K) (by rfl) T.z_len (by decide +kernel) (pa_cons (pe_ix (kix_tup K) (pe_ix (kix_list K) (pv 2) pe_int (fun _ _ => rfl)) pe_int (fun _ _ => rfl)) pa_nil)) rfl))))))), ?_⟩
  clear hu hu64 hu2
  walk_at "wp"
  have eight := hg.eight
  have few := hg.few
  have two := hg.two
  have has := hg.has
  refine ⟨l, ws, rfl, .inl hl, fun H1 e1 => ?_⟩
  walk_at "wp"
  refine i_F ?_
  walk_at "wp"
  refine r_lenL (stL (e1 _ _ hl)) ?_
  rw [hd.1]
  walk_at "wp"
  refine i_dT (by omega) ?_
  walk_at "wp"
  refine i_nF (by omega) ?_
  walk_at "wp"
  refine al (by walk_at "sz") fun r H2 hr e2 h2 => ?_
  walk_at "wp"
  have e12 := e1.trans e2
  refine ⟨l, ws, rfl, stL (e12 _ _ hl), fr_W walk_enum (fun i σ H3 => Ex H H3 ∧ ∃ (x y : Option V) (vs : List V), σ = [some (.ref m), some (.ref l), some (.ref r), x, y] ∧ H3 r = some (.lst vs) ∧ DeedsAt H3 vs (ds.take i))
    ⟨e12, _, _, [], rfl, h2, DeedsAt.nil _⟩ (fun i σ H3 hi h => stL (h.1 _ _ hl)) (fun i x σ H3 H4 hi h y => ?_) (fun σ H3 h => ?_)⟩
  · obtain ⟨e3, x0, y0, vs, rfl, hr3, hD⟩ := h
    obtain ⟨t, u, v, rfl, hu, hv, ht, e4⟩ := yp_get y
    cases hu
    have e34 := e3.trans e4
    obtain ⟨x, f, p, q, hi2, rfl, hp, hq⟩ := (hd.ex e34).get hv
    have hmem := List.mem_of_getElem? hi2
    have pf : Pm n f := hg.perm _ hmem
    have hil : i < ds.length := (List.getElem?_eq_some_iff.mp hi2).1
    have hD4 := hD.ei e4.ei
    have hr4 := e4 _ _ hr3
    refine g_two (stT ht) ?_
    walk_at "wp"
    have hsub : ∀ p ∈ ds.take i, p ∈ ds := fun p hp => List.mem_of_mem_take hp
    refine ⟨p, r, q, x, f, vs, ds.take i, rfl, hp, hq, hg.name _ hmem, hr4, hD4, fun p hp => hg.name p (hsub p hp), by rw [List.length_take]; omega, fun hx => ?_, by rw [pf.len]; exact two, by rw [pf.len]; exact few, fun y hy => by rw [pf.len]; exact pf.lt y hy, fun p hp => by rw [pf.len]; exact (hg.perm p (hsub p hp)).len, fun H5 e5 => ?_⟩
    · obtain ⟨p2, hp2, e0⟩ := List.mem_map.mp hx
      obtain ⟨j, hj, e1⟩ := List.getElem_of_mem hp2
      rw [List.getElem_take] at e1
      rw [List.length_take] at hj
      have hj2 : j < i := by omega
      obtain ⟨y2, g2⟩ := p2
      refine hg.ne (i := j) (j := i) (x := y2) (f := g2) (by rw [List.getElem?_eq_getElem (by omega), e1]) hi2 (by omega) e0
    · walk_at "wp"
      refine i_F ?_
      walk_at "wp"
      refine ty_list (stL (e5 _ _ hr4)) ?_
      walk_at "wp"
      refine r_ixT (n := 0) (stT (e5 _ _ hp)) rfl ?_
      walk_at "wp"
      refine r_ixT (n := 1) (stT (e5 _ _ hp)) rfl ?_
      refine r_tupLT (hq.ex e5) fun q2 H6 e6 h6 => ?_
      walk_at "wp"
      refine al (by walk_at "sz") fun t2 H7 ht2 e7 h7 => ?_
      walk_at "wp"
      have e57 := (e5.trans e6).trans e7
      refine r_app (e57 _ _ hr4) (smallL (by rw [hD.1, List.length_take]; omega)) fun H8 m8 h8 => ?_
      refine ⟨(e34.trans e57).mu m8 (e1.free hr), _, _, _, rfl, h8, ?_⟩
      have ht : ds.take (i + 1) = ds.take i ++ [(x, f)] := by
        rw [List.take_succ, hi2]
        rfl
      rw [ht]
      exact ((hD4.ei e57.ei).ei m8.ei).snoc (m8.tup h7) (m8.tup (e7 _ _ h6))
  · obtain ⟨e3, x0, y0, vs, rfl, hr3, hD⟩ := h
    rw [hd.1, List.take_length] at hD
    walk_at "wp"
    refine q_fld ?_
    walk_at "wp"
    refine r_tupF (stL hr3) fun d H4 e4 hd4 => ?_
    walk_at "wp"
    have hm4 := e4 _ _ (e3 _ _ hm)
    have hr4 := e4 _ _ hr3
    have hrm : r ≠ m := ne_obj hr4 hm4 (fun e => nomatch e)
    refine ⟨m, C, dx, _, rfl, hm4, T.cl, T.nD, by decide, ?_⟩
    generalize hH5 : upd H4 m (.ins C dx (putF (Str.ofString "deeds") (V.ref d) [])) = H5
    have m5 : Mu m H4 H5 := by rw [← hH5]; exact Mu.of hm4 rfl
    have h5 : H5 m = some (.ins C dx [(Str.ofString "deeds", V.ref d)]) := by rw [← hH5, upd_same]; rfl
    clear hH5
    walk_at "wp"
    refine q_fld ?_
    walk_at "wp"
    have hr5 := m5.rest r _ hrm hr4
    have hD5 := (hD.ei e4.ei).ei m5.ei
    refine ⟨r, rfl, ⟨_, stL hr5⟩, lc_V ((nms ds).map V.str) (wk_list (stL hr5)) (by rw [hD.1]; omega) (by rw [List.length_map, List.length_map, hD.1]) (fun i y z H6 H7 hz e hy R hR => ?_) fun D H6 hDn e6 hDl => ?_⟩
    · obtain ⟨rfl, hy⟩ := hy
      obtain ⟨x', f', p, q', hi, rfl, hp, _⟩ := (hD5.ei e.ei).get hy
      refine ⟨rfl, ?_⟩
      walk_at "wp"
      refine r_ixT (n := 0) (stT hp) rfl ?_
      rw [List.getElem?_map, List.getElem?_map, hi] at hz
      cases hz
      exact hR _ (Ex.refl _)
    refine r_tupF (stL hDl) fun nm H7 e7 hn7 => ?_
    walk_at "wp"
    have e57 := e6.trans e7
    have hm7 := e57 _ _ h5
    refine ⟨m, C, dx, _, rfl, hm7, T.cl, T.nN, (show 1 < 1000 by decide), ?_⟩
    generalize hH8 : upd H7 m (.ins C dx (putF (Str.ofString "names") (V.ref nm) [(Str.ofString "deeds", V.ref d)])) = H8
    have m8 : Mu m H7 H8 := by rw [← hH8]; exact Mu.of hm7 rfl
    have h8 : H8 m = some (.ins C dx [(Str.ofString "deeds", V.ref d), (Str.ofString "names", V.ref nm)]) := by rw [← hH8, upd_same]; rfl
    clear hH8
    walk_at "wp"
    refine q_fld ?_
    walk_at "wp"
    have hr8 := m8.rest r _ hrm (e57 _ _ hr5)
    have hD8 := (hD5.ei e57.ei).ei m8.ei
    obtain ⟨x, f, hxf⟩ : ∃ x f, ds[0]? = some (x, f) := ⟨_, _, List.getElem?_eq_getElem has⟩
    obtain ⟨p, q, g1, g2, g3⟩ := hD8.2 0 x f hxf
    refine r_ixL (n := 0) (stL hr8) (atI_ok (n := 0) g1) ?_
    walk_at "wp"
    refine r_ixT (n := 1) (stT g2) rfl ?_
    walk_at "wp"
    refine r_lenT (stT g3) ?_
    rw [encI_len, (hg.perm _ (List.mem_of_getElem? hxf)).len]
    walk_at "wp"
    refine ⟨m, C, dx, _, rfl, h8, T.cl, T.nS, (show 2 < 1000 by decide), ?_⟩
    generalize hH9 : upd H8 m (.ins C dx (putF (Str.ofString "size") (V.int (n : Nat)) [(Str.ofString "deeds", V.ref d), (Str.ofString "names", V.ref nm)])) = H9
    have m9 : Mu m H8 H9 := by rw [← hH9]; exact Mu.of h8 rfl
    have h9 : H9 m = some (.ins C dx [(Str.ofString "deeds", V.ref d), (Str.ofString "names", V.ref nm), (Str.ofString "size", V.int (n : Nat))]) := by rw [← hH9, upd_same]; rfl
    clear hH9
    walk_at "wp"
    refine k H9 ⟨⟨_, hm, rfl⟩, fun b o hb h => m9.rest b o hb (m8.rest b o hb (e57 _ _ (m5.rest b o hb (e4 _ _ (e3 _ _ h)))))⟩ ⟨dx, d, nm, vs, h9, m9.plT (m8.plT (e57.plT (m5.plT hd4))), hD8.ei m9.ei, ?_⟩
    have := m9.plT (m8.plT hn7)
    rw [names_map]
    exact this

end
end Eo
namespace Eo
open PySem PyProof.Rows L2 L2.DX
/-! words of the walk: wp goes on where nothing is open; hl looks an object up; ex: what stood stands -/
local macro_rules | `(tactic| walk_at "hl") => `(tactic| first | assumption | exact PlT.sq (by assumption) | (refine stT ?_; walk_at "hl") | (refine stL ?_; walk_at "hl") | (refine Ex.at (by assumption) ?_; walk_at "hl") | (refine Mu.tup (by assumption) ?_; walk_at "hl") | (refine Ex.sqT (by assumption) ?_; walk_at "hl") | (refine Ex.sqL (by assumption) ?_; walk_at "hl") | (refine Ex.plT (by assumption) ?_; walk_at "hl") | (refine Mu.plT (by assumption) ?_; walk_at "hl"))
local macro_rules | `(tactic| walk_at "ex") => `(tactic| first | assumption | exact Ex.refl _ | (refine Ex.trans ?_ (by assumption); walk_at "ex") | (refine Ex.mu ?_ (by assumption) (by first | assumption | walk_at "fr"); walk_at "ex"))
local macro_rules | `(tactic| walk_at "fr") => `(tactic| first | assumption | (refine Ex.free (by assumption) ?_; walk_at "fr"))
local macro_rules | `(tactic| walk_at "rf") => `(tactic| with_unfolding_all rfl)
local macro_rules | `(tactic| walk_at "wp") => `(tactic| repeat (with_reducible first
  | refine q_seq ?_ | refine q_asg ?_ | refine q_ret ?_ | refine q_drop ?_ | refine q_if ?_ | refine q_next ?_ | refine q_par ?_ | refine q_par3 ?_ | refine q_retN ?_ | refine q_cont ?_ | refine q_brk ?_
  | refine e_var (by with_unfolding_all rfl) ?_ | refine e_c ?_ | refine e_op ?_ | refine e_cons ?_ | refine e_nil ?_ | refine e_test ?_ | refine e_B ?_ | refine e_yes ?_ | refine e_cb ?_ | refine e_call ?_ | refine e_then ?_ | refine e_tup ?_ | refine e_lst ?_
  | refine x_bl ?_ | refine i_T ?_ | refine i_F ?_ | refine x_two ?_ | refine x_three ?_
  | refine r_I0 ?_ | refine r_add ?_ | refine r_ip ?_ | refine g_nm ?_ | refine r_eqI ?_ | refine r_neI ?_ | refine r_eq (by with_unfolding_all rfl) ?_ | refine r_ne (by with_unfolding_all rfl) ?_
  | refine e_not ?_ | refine e_and ?_ | refine e_or ?_ | refine e_andV ?_ | refine e_orV ?_ | refine e_notV ?_ | refine e_ifx ?_ | refine e_idxF ?_ | refine e_idxI ?_ | refine e_sl ?_ | refine e_part ?_ | refine e_nopart ?_ | refine f_revA ?_ | refine e_lenSet ?_ | refine l_dcT ?_ | refine e_sadd ?_ | refine q_asgS ?_ | refine q_augS ?_ | refine e_tupRg ?_ | refine e_lstRg ?_ | refine e_rg1 ?_ | refine e_rg2 ?_ | refine e_dget ?_ | refine e_din ?_ | refine e_dnotin ?_ | refine e_dget2 ?_ | refine q_dput ?_ | refine e_un ?_ | refine e_chain ?_ | refine e_bm ?_ | refine e_bm0 ?_ | refine e_fld ?_ | refine q_asgT ?_
  | refine l_any ?_ | refine l_tup ?_ | refine l_list ?_ | refine l_rng1 ?_ | refine l_rng2 ?_ | refine l_str ?_ | refine l_enumL ?_ | refine l_enumT ?_ | refine l_zip ?_ | refine l_zipM ?_
  | refine f_tup ?_ | refine f_list ?_ | refine f_rng1 ?_ | refine f_enumL ?_ | refine f_enumT ?_))
local macro_rules | `(tactic| walk_at "sz") => `(tactic| first | decide | (refine small ?_; simp; done) | (refine small ?_; simp; omega) | (refine smallL ?_; simp; done) | (refine smallL ?_; simp; omega) | (simp; done) | (simp; omega))
section
variable {P : Program} {w : World} {K : PySem.W.Frag} {mg : Str → Option Value} {base : Heap} {C : Addr} {A : Nat → Addr} {FD : Nat → FuncData}
def MkAt (C : Addr) (vs : List V) (H : Hp) (Q : VK) : Prop := ∀ x dx, H x = none → H dx = none → dx ≠ x → sp_Machine_init C (.ref x :: (vs ++ [])) (upd (upd H dx (.own x)) x (.ins C dx [])) (fun v H2 => v = .non ∧ Q (.ref x) H2) E0
theorem e_make {C : Addr} {t : TA} {σ : L2.St} {H : Hp} {Q : VK} (k : t σ H fun vs H1 => MkAt C vs H1 Q) : tMake C (sp_Machine_init C) [] E0 t σ H Q := k
theorem r_make {C : Addr} {H : Hp} {Q : VK} {l : Addr} {ws : List V} {n : Nat} {ds : Ds} (hl : H l = some (.lst ws)) (hd : InDeeds H ws ds) (hg : Good n ds) (k : ∀ m H1, Ex H H1 → Mac C H1 m n ds → Q (.ref m) H1) : MkAt C [.ref l] H Q := by
  intro x dx hx hdx hne
  have hx2 : upd H dx (.own x) x = none := by rw [upd_ne (Ne.symm hne)]; exact hx
  have e : Ex H (upd (upd H dx (.own x)) x (.ins C dx [])) := (Ex.new hdx).trans (Ex.new hx2)
  exact ⟨x, l, dx, n, ds, ws, rfl, upd_same, e _ _ hl, hd.ex e, hg, fun H' mu mac => ⟨rfl, k x H' (e.mu mu hx |> fun h => h) mac⟩⟩
/-- fewer deeds -/
def fewer (ds : Ds) (N : List Str) : Ds := ds.filter fun p => decide (p.1 ∈ N)
theorem sub_nodup {α : Type} {l m : List α} (h : l.Sublist m) (nd : m.Nodup) : l.Nodup := nd.sublist h
theorem Good.fewer {n : Nat} {ds : Ds} (g : Good n ds) {N : List Str} (h : ∃ p ∈ ds, p.1 ∈ N) : Good n (fewer ds N) := by
  have hs : (Eo.fewer ds N).Sublist ds := List.filter_sublist
  refine ⟨g.two, g.few, ?_, Nat.le_trans hs.length_le g.eight, fun p hp => g.perm p (hs.subset hp), fun p hp => g.name p (hs.subset hp), sub_nodup (hs.map _) g.apart⟩
  obtain ⟨p, hp, hN⟩ := h
  exact List.length_pos_of_mem (List.mem_filter.mpr ⟨hp, decide_eq_true hN⟩)
def sp_fewer_deeds (C0 : Addr) : Sp := fun vs H Q _ => ∃ (a l : Addr) (n : Nat) (ds : Ds) (N : List Str), vs = [.ref a, .ref l] ∧ Mac C0 H a n ds ∧ Good n ds ∧ H l = some (.lst (N.map V.str)) ∧ 0 < N.length ∧ (∀ x ∈ N, x ∈ nms ds) ∧ ∀ m H', Ex H H' → Mac C0 H' m n (fewer ds N) → Good n (fewer ds N) → Q (.ref m) H'
theorem ok_fewer_deeds (T : Tx K mg C A FD) : (FnOk P w K mg base CX0 6 (A 18) (FD 18) ["machine", "names"] (sp_fewer_deeds C)) := by
  refine T.d_fewer_deeds.F.ok sc_fewer_deeds (fun vs H Q E h => by obtain ⟨a, l, n, ds, N, rfl, hm, hg, hl, h0, hN, k⟩ := h; rfl) (fun cdv A0 outer s H vs Q E hr h => ?_)
  obtain ⟨a, l, n, ds, N, rfl, hm, hg, hl, h0, hN, k⟩ := h
  have hu := hu_of hr
  have hu64 := hr.units
  have hu2 : _ + 65 < cLine := (fun {A : Around} {k} (hr : Room k A) => (by have := hr.un; omega : A.units + 65 < cLine)) hr
  refine ⟨_, (pss_cons (ps_if (pt_cmpR op_eq (pe_callB (kcall_len K) (by rfl) T.z_len (by decide +kernel) (pa_cons (pv 1) pa_nil)) pe_int (nomark _)) (pss_one ps_never) pss_nil)
    (pss_cons (ps_for PassesOwn.never rfl (kpi_list K (pv 1)) (pg_name (i := 2) sc_fewer_deeds.nd rfl (by first | exact .inl rfl | exact .inr rfl)) (pss_one (ps_if (pt_cmpR (kop_notIn K) (pv 2) (kpe_fld K (pv 0)) rfl) (pss_one ps_never) pss_nil)))
    (pss_one (ps_ret (pe_make T.mkC (ok_Machine_init T) (hr.mono (by decide)) (by rfl) T.gC T.d_Machine_init.b .nil pass0 (pa_cons (pe_lc rfl sc_fewer_deeds.nd (kpi_tup K (kpe_fld K (pv 0))) (blkOk_by (own := [("deed", 3)]) (N := N_fewer_deeds) (sc := defScope s_fewer_deeds) (by decide +kernel)) (fun _ _ _ _ _ => (pg_name (i := 3) sc_fewer_deeds.nd rfl (by first | exact .inl rfl | exact .inr rfl))) (fun _ _ _ _ _ => (pts_one (pt_cmpR (kop_in K) (pe_ix (kix_tup K) (pv 3) pe_int (fun _ _ => rfl)) (pv 1) rfl))) (fun _ _ _ _ _ => (pv 3))) pa_nil)))))), ?_⟩
  clear hu hu64 hu2
  walk_at "wp"
  obtain ⟨dx, d, nm, vs, hm1, hm2, hm3, hm4⟩ := hm.ex
  rw [names_map] at hm4
  refine r_lenL (stL hl) ?_
  rw [List.length_map]
  walk_at "wp"
  refine i_dF (by omega) ?_
  walk_at "wp"
  refine ⟨l, rfl, ⟨_, stL hl⟩, fr_W walk_list (fun i σ H1 => H1 = H ∧ ∃ x y, σ = [some (.ref a), some (.ref l), x, y]) ⟨rfl, _, _, rfl⟩ (fun i σ H1 hi h => by rw [h.1]; exact stL hl) (fun i x σ H1 H2 hi h y => ?_) (fun σ H1 h => ?_)⟩
  · obtain ⟨rfl, x0, y0, rfl⟩ := h
    obtain ⟨rfl, hx⟩ := y
    rw [List.getElem?_map, Option.map_eq_some_iff] at hx
    obtain ⟨z, hz, rfl⟩ := hx
    walk_at "wp"
    refine ⟨a, C, dx, _, _, rfl, hm1, T.cl, T.nN, rfl, ?_⟩
    refine r_ninS (.inr hm4.sq) ?_
    walk_at "wp"
    refine i_nF (hN z (List.mem_of_getElem? hz)) ?_
    walk_at "wp"
    exact ⟨rfl, _, _, rfl⟩
  · obtain ⟨rfl, x0, y0, rfl⟩ := h
    walk_at "wp"
    refine e_make ?_
    walk_at "wp"
    refine ⟨a, C, dx, _, _, rfl, hm1, T.cl, T.nD, rfl, ?_⟩
    refine ⟨d, rfl, ⟨_, hm2.sq⟩, lc_I (fun i acc H1 => DeedsAt H1 acc (fewer (ds.take i) N)) (wk_tup hm2.sq) (by rw [hm3.1]; have := hg.eight; omega) (fun H1 _ => DeedsAt.nil _) (fun _ _ _ _ e h => h.ei e) (fun i acc x H2 H3 hi e hI y P NN hP hNN => ?_) fun D acc H2 hD e hDl _ hI => ?_⟩
    · obtain ⟨rfl, hx⟩ := y
      obtain ⟨x', f', p, q', hi2, rfl, hp, hq'⟩ := (hm3.ei e.ei).get hx
      refine ⟨rfl, ?_⟩
      walk_at "wp"
      refine r_ixT (n := 0) (stT hp) rfl ?_
      walk_at "wp"
      refine r_inS (.inl (stL (e _ _ hl))) ?_
      walk_at "wp"
      have ht : ds.take (i + 1) = ds.take i ++ [(x', f')] := by
        rw [List.take_succ, hi2]
        rfl
      refine i_d (fun hin => ?_) (fun hin => ?_)
      · walk_at "wp"
        refine hP _ _ (Ex.refl _) ?_
        rw [ht]
        unfold fewer
        rw [List.filter_append]
        have : List.filter (fun p : Str × List Nat => decide (p.1 ∈ N)) [(x', f')] = [(x', f')] := by simp [hin]
        rw [this]
        exact hI.snoc hp hq'
      · walk_at "wp"
        refine hNN _ (Ex.refl _) ?_
        rw [ht]
        unfold fewer
        rw [List.filter_append]
        have : List.filter (fun p : Str × List Nat => decide (p.1 ∈ N)) [(x', f')] = [] := by simp [hin]
        rw [this, List.append_nil]
        exact hI
    · walk_at "wp"
      rw [hm3.1, List.take_length] at hI
      have hgf : Good n (fewer ds N) := hg.fewer (by
        obtain ⟨p, hp, e0⟩ := List.mem_map.mp (hN N[0] (List.getElem_mem h0))
        exact ⟨p, hp, by rw [e0]; exact List.getElem_mem h0⟩)
      refine r_make hDl ⟨hI.1, fun i x f hi => let ⟨p, q, h1, h2, h3⟩ := hI.2 i x f hi; ⟨p, q, h1, h2, .inr h3⟩⟩ hgf fun m H3 e3 mac => k m H3 (e.trans e3) mac hgf

end
end Eo
namespace Eo
open PySem PyProof.Rows L2 L2.DX
/-! words of the walk: wp goes on where nothing is open; hl looks an object up; ex: what stood stands -/
local macro_rules | `(tactic| walk_at "hl") => `(tactic| first | assumption | exact PlT.sq (by assumption) | (refine stT ?_; walk_at "hl") | (refine stL ?_; walk_at "hl") | (refine Ex.at (by assumption) ?_; walk_at "hl") | (refine Mu.tup (by assumption) ?_; walk_at "hl") | (refine Ex.sqT (by assumption) ?_; walk_at "hl") | (refine Ex.sqL (by assumption) ?_; walk_at "hl") | (refine Ex.plT (by assumption) ?_; walk_at "hl") | (refine Mu.plT (by assumption) ?_; walk_at "hl"))
local macro_rules | `(tactic| walk_at "ex") => `(tactic| first | assumption | exact Ex.refl _ | (refine Ex.trans ?_ (by assumption); walk_at "ex") | (refine Ex.mu ?_ (by assumption) (by first | assumption | walk_at "fr"); walk_at "ex"))
local macro_rules | `(tactic| walk_at "fr") => `(tactic| first | assumption | (refine Ex.free (by assumption) ?_; walk_at "fr"))
local macro_rules | `(tactic| walk_at "rf") => `(tactic| with_unfolding_all rfl)
local macro_rules | `(tactic| walk_at "wp") => `(tactic| repeat (with_reducible first
  | refine q_seq ?_ | refine q_asg ?_ | refine q_ret ?_ | refine q_drop ?_ | refine q_if ?_ | refine q_next ?_ | refine q_par ?_ | refine q_par3 ?_ | refine q_retN ?_ | refine q_cont ?_ | refine q_brk ?_
  | refine e_var (by with_unfolding_all rfl) ?_ | refine e_c ?_ | refine e_op ?_ | refine e_cons ?_ | refine e_nil ?_ | refine e_test ?_ | refine e_B ?_ | refine e_yes ?_ | refine e_cb ?_ | refine e_call ?_ | refine e_then ?_ | refine e_tup ?_ | refine e_lst ?_
  | refine x_bl ?_ | refine i_T ?_ | refine i_F ?_ | refine x_two ?_ | refine x_three ?_
  | refine r_I0 ?_ | refine r_add ?_ | refine r_ip ?_ | refine g_nm ?_ | refine r_eqI ?_ | refine r_neI ?_ | refine r_eq (by with_unfolding_all rfl) ?_ | refine r_ne (by with_unfolding_all rfl) ?_
  | refine e_not ?_ | refine e_and ?_ | refine e_or ?_ | refine e_andV ?_ | refine e_orV ?_ | refine e_notV ?_ | refine e_ifx ?_ | refine e_idxF ?_ | refine e_idxI ?_ | refine e_sl ?_ | refine e_part ?_ | refine e_nopart ?_ | refine f_revA ?_ | refine e_lenSet ?_ | refine l_dcT ?_ | refine e_sadd ?_ | refine q_asgS ?_ | refine q_augS ?_ | refine e_tupRg ?_ | refine e_lstRg ?_ | refine e_rg1 ?_ | refine e_rg2 ?_ | refine e_dget ?_ | refine e_din ?_ | refine e_dnotin ?_ | refine e_dget2 ?_ | refine q_dput ?_ | refine e_un ?_ | refine e_chain ?_ | refine e_bm ?_ | refine e_bm0 ?_ | refine e_fld ?_ | refine q_asgT ?_
  | refine l_any ?_ | refine l_tup ?_ | refine l_list ?_ | refine l_rng1 ?_ | refine l_rng2 ?_ | refine l_str ?_ | refine l_enumL ?_ | refine l_enumT ?_ | refine l_zip ?_ | refine l_zipM ?_
  | refine f_tup ?_ | refine f_list ?_ | refine f_rng1 ?_ | refine f_enumL ?_ | refine f_enumT ?_))
local macro_rules | `(tactic| walk_at "sz") => `(tactic| first | decide | (refine small ?_; simp; done) | (refine small ?_; simp; omega) | (refine smallL ?_; simp; done) | (refine smallL ?_; simp; omega) | (simp; done) | (simp; omega))
section
variable {P : Program} {w : World} {K : PySem.W.Frag} {mg : Str → Option Value} {base : Heap} {C : Addr} {A : Nat → Addr} {FD : Nat → FuncData}
section
variable {σ : L2.St} {H : Hp} {Q : VK} {J : It} {n : Nat} {Y : Nat → Hp → V → Hp → Prop} {g : TG} {tt : TT} {te : TE} {vs : List Nat}
/-- as lc_I, by a word that knows the list that is made -/
theorem lc_J (I : Addr → Nat → List V → Hp → Prop) (w : Wk J n H Y) (hn : n ≤ 50000) (h0 : ∀ D H1, H D = none → Ex H H1 → I D 0 [] H1) (mono : ∀ D i acc H1 H2, (∀ b o, b ≠ D → H1 b = some o → H2 b = some o) → I D i acc H1 → I D i acc H2)
    (step : ∀ D i acc x H1 H2, i < n → Ex H H2 → H2 D = some (.lst acc) → I D i acc H2 → Y i H1 x H2 → ∀ R : V → Hp → Prop, ∀ N : Hp → Prop, (∀ y H3, Ex H2 H3 → I D (i + 1) (acc ++ [y]) H3 → R y H3) → (∀ H3, Ex H2 H3 → I D (i + 1) acc H3 → N H3) →
      g x (wipe σ vs) H2 fun σ2 H3 => wipe σ2 vs = wipe σ vs ∧ tt σ2 H3 fun b H4 => if b = true then te σ2 H4 R else N H4)
    (k : ∀ D acc H1, H D = none → Ex H H1 → H1 D = some (.lst acc) → acc.length ≤ n → I D n acc H1 → Q (.ref D) H1) : Lc J g tt te vs σ H Q := by
  intro D hD
  obtain ⟨⟨G, wk, hG⟩, ext⟩ := w
  refine lc_it wk (D := D) (Qd := fun H' => Q (.ref D) H') (fun i H' => Ex H H' ∧ ∃ acc, H' D = some (.lst acc) ∧ acc.length ≤ i ∧ I D i acc H') ⟨Ex.new hD, [], upd_same, Nat.zero_le _, h0 _ _ hD (Ex.new hD)⟩ (fun i H' _ p => hG H' p.1) (fun i x H1 H2 hi p y => ?_)
    fun H' p => let ⟨e, acc, h1, h2, h3⟩ := p; k D acc H' hD e h1 h2 h3
  obtain ⟨e, acc, h1, h2, h3⟩ := p
  have e2 := ext _ _ _ _ y
  refine step D i acc x H1 H2 hi (e.trans e2) (e2 _ _ h1) (mono _ _ _ _ _ (fun b o _ h => e2 b o h) h3) y (fun y H4 => ∃ acc, H4 D = some (.lst acc) ∧ acc.length < sizeLine ∧ (Ex H (upd H4 D (.lst (acc ++ [y]))) ∧ ∃ acc', (upd H4 D (.lst (acc ++ [y]))) D = some (.lst acc') ∧ acc'.length ≤ i + 1 ∧ I D (i + 1) acc' (upd H4 D (.lst (acc ++ [y])))))
    (fun H3 => Ex H H3 ∧ ∃ acc, H3 D = some (.lst acc) ∧ acc.length ≤ i + 1 ∧ I D (i + 1) acc H3)
    (fun y H3 e3 q => ?_) (fun H3 e3 q => ⟨(e.trans e2).trans e3, acc, e3 _ _ (e2 _ _ h1), by omega, q⟩)
  have at3 := e3 _ _ (e2 _ _ h1)
  have m : Mu D H3 (upd H3 D (.lst (acc ++ [y]))) := Mu.of at3 rfl
  exact ⟨acc, at3, smallL (by omega), ((e.trans e2).trans e3).mu m hD, acc ++ [y], upd_same, by rw [List.length_append, List.length_singleton]; omega, mono _ _ _ _ _ m.rest q⟩
end
/-- deeds whose images are lists, all apart from the list D that holds them -/
def InD (H : Hp) (D : Addr) (vs : List V) (ds : Ds) : Prop := vs.length = ds.length ∧ ∀ (i : Nat) (x : Str) (f : List Nat), ds[i]? = some (x, f) → ∃ p q, vs[i]? = some (.ref p) ∧ H p = some (.tup [.str x, .ref q]) ∧ H q = some (.lst (encI f)) ∧ p ≠ D ∧ q ≠ D
theorem InD.keep {H H' : Hp} {D : Addr} {vs : List V} {ds : Ds} (h : InD H D vs ds) (e : ∀ b o, b ≠ D → H b = some o → H' b = some o) : InD H' D vs ds := ⟨h.1, fun i x f hi => let ⟨p, q, h1, h2, h3, h4, h5⟩ := h.2 i x f hi; ⟨p, q, h1, e _ _ h4 h2, e _ _ h5 h3, h4, h5⟩⟩
theorem InD.nil (H : Hp) (D : Addr) : InD H D [] [] := ⟨rfl, fun i x f e => by simp at e⟩
theorem InD.snoc {H : Hp} {D : Addr} {vs : List V} {ds : Ds} {p q : Addr} {x : Str} {f : List Nat} (h : InD H D vs ds) (h1 : H p = some (.tup [.str x, .ref q])) (h2 : H q = some (.lst (encI f))) (h3 : p ≠ D) (h4 : q ≠ D) : InD H D (vs ++ [.ref p]) (ds ++ [(x, f)]) := by
  refine ⟨by rw [List.length_append, List.length_append, h.1]; rfl, fun i y g e => ?_⟩
  rcases snoc_get e with ⟨hi, e'⟩ | ⟨rfl, e'⟩
  · obtain ⟨a, b, k1, k2⟩ := h.2 i y g e'
    exact ⟨a, b, by rw [List.getElem?_append_left (by rw [h.1]; exact hi)]; exact k1, k2⟩
  · cases e'
    exact ⟨p, q, by rw [← h.1]; exact snoc_last _ _, h1, h2, h3, h4⟩
theorem InD.ins {H : Hp} {D : Addr} {vs : List V} {ds : Ds} (h : InD H D vs ds) : InDeeds H vs ds := ⟨h.1, fun i x f hi => let ⟨p, q, h1, h2, h3, _⟩ := h.2 i x f hi; ⟨p, q, h1, h2, .inl h3⟩⟩
theorem inV_ints {x : Nat} {T : List Nat} : inV (.int (x : Nat)) (encI T) = decide (x ∈ T) := by
  unfold inV encI
  rw [List.any_map]
  by_cases h : x ∈ T
  · rw [decide_eq_true h, List.any_eq_true]
    exact ⟨x, h, by simp [L2.eqV]⟩
  · rw [decide_eq_false h, List.any_eq_false]
    intro y hy e
    simp [L2.eqV] at e
    have : y = x := by omega
    subst this
    exact h hy
theorem flat_encI (f : List Nat) : (encI f).all flatV = true := by
  rw [encI_ints]
  exact flat_ints _
theorem r_ninE {K : PySem.W.Frag} {H : Hp} {Q : VK} {b : Addr} {x : Nat} {T : List Nat} (h : SqL K H b (encI T) ∨ SqT K H b (encI T)) (k : Q (.bl (!decide (x ∈ T))) H) : rIn K true (.int (x : Nat)) (.ref b) H Q :=
  ⟨b, _, rfl, h, rfl, flat_encI T, by simp only [if_true, inV_ints]; exact k⟩
/-- a shut part -/
structure ShutT (n : Nat) (ds : Ds) (T : List Nat) : Prop where
  lt : ∀ t ∈ T, t < n
  nd : T.Nodup
  shut : ∀ p ∈ ds, ∀ t ∈ T, ap p.2 t ∈ T
def sp_shut_leak (C0 : Addr) : Sp := fun vs H Q _ => ∃ (a s : Addr) (n : Nat) (ds : Ds) (T : List Nat), vs = [.ref a, .ref s] ∧ Mac C0 H a n ds ∧ Good n ds ∧ PlT H s (encI T) ∧ ShutT n ds T ∧ Q .non H
theorem ok_shut_leak (T : Tx K mg C A FD) : (FnOk P w K mg base CX0 1 (A 40) (FD 40) ["machine", "states"] (sp_shut_leak C)) := by
  refine T.d_shut_leak.F.ok sc_shut_leak (fun vs H Q E h => by obtain ⟨a, s, n, ds, t, rfl, hm, hg, hs, ht, k⟩ := h; rfl) (fun cdv A0 outer s H vs Q E hr h => ?_)
  obtain ⟨a, s, n, ds, t, rfl, hm, hg, hs, ht, k⟩ := h
  have hu := hu_of hr
  have hu64 := hr.units
  have hu2 : _ + 65 < cLine := (fun {A : Around} {k} (hr : Room k A) => (by have := hr.un; omega : A.units + 65 < cLine)) hr
  refine ⟨_, (pss_cons (ps_for PassesOwn.never rfl (kpi_tup K (pv 1)) (pg_name (i := 2) sc_shut_leak.nd rfl (by first | exact .inl rfl | exact .inr rfl)) (pss_one (ps_for PassesOwn.never rfl (kpi_tup K (kpe_fld K (pv 0))) (kpg_tup K (n := 2) (by rfl) (pgs_cons (pg_name (i := 3) sc_shut_leak.nd rfl (by first | exact .inl rfl | exact .inr rfl)) (pgs_cons (pg_name (i := 4) sc_shut_leak.nd rfl (by first | exact .inl rfl | exact .inr rfl)) pgs_nil))) (pss_one (ps_if (pt_cmpR (kop_notIn K) (pe_ix (kix_tup K) (pv 4) (pv 2) (fun _ _ => rfl)) (pv 1) rfl) (pss_one (ps_ret (pe_tup (pa_cons (pv 2) (pa_cons (pv 3) pa_nil))))) pss_nil)))))
    (pss_one (ps_ret pe_non))), ?_⟩
  clear hu hu64 hu2
  walk_at "wp"
  obtain ⟨dx, d, nm, vs, hm1, hm2, hm3, hm4⟩ := hm.ex
  refine ⟨s, rfl, ⟨_, hs.sq⟩, fr_W walk_tup (fun i σ H1 => H1 = H ∧ ∃ x y z, σ = [some (.ref a), some (.ref s), x, y, z]) ⟨rfl, _, _, _, rfl⟩ (fun i σ H1 hi h => by rw [h.1]; exact hs.sq) (fun i x σ H1 H2 hi h y => ?_) (fun σ H1 h => ?_)⟩
  · obtain ⟨rfl, x0, y0, z0, rfl⟩ := h
    obtain ⟨rfl, hx⟩ := y
    obtain ⟨hi2, rfl⟩ := encI_at hx
    walk_at "wp"
    refine ⟨a, C, dx, _, _, rfl, hm1, T.cl, T.nD, rfl, ?_⟩
    refine ⟨d, rfl, ⟨_, hm2.sq⟩, fr_W walk_tup (fun j σ H3 => H3 = H2 ∧ ∃ y z, σ = [some (.ref a), some (.ref s), some (.int ((ap t i : Nat) : Int)), y, z]) ⟨rfl, _, _, rfl⟩ (fun i σ H1 hi h => by rw [h.1]; exact hm2.sq) (fun j x σ H3 H4 hj h y => ?_) (fun σ H3 h => ?_)⟩
    · obtain ⟨rfl, y0, z0, rfl⟩ := h
      obtain ⟨rfl, hx⟩ := y
      obtain ⟨x', f', p, q', hi3, rfl, hp, hq'⟩ := hm3.get hx
      have hmem := List.mem_of_getElem? hi3
      refine g_two (stT hp) ?_
      walk_at "wp"
      refine r_ixE (stT hq') (by rw [(hg.perm _ hmem).len]; exact ht.lt _ (ap_mem hi2)) ?_
      walk_at "wp"
      refine r_ninE (.inr hs.sq) ?_
      walk_at "wp"
      refine i_nF (ht.shut _ hmem _ (ap_mem hi2)) ?_
      walk_at "wp"
      exact ⟨rfl, _, _, rfl⟩
    · obtain ⟨rfl, y0, z0, rfl⟩ := h
      exact ⟨rfl, _, _, _, rfl⟩
  · obtain ⟨rfl, x0, y0, z0, rfl⟩ := h
    walk_at "wp"
    exact k
def shutD (T : List Nat) (ds : Ds) : Ds := ds.map fun p => (p.1, cutE T p.2)
theorem Good.shut {n : Nat} {ds : Ds} (g : Good n ds) {T : List Nat} (h : ShutT n ds T) (h2 : 2 ≤ T.length) : Good T.length (shutD T ds) := by
  refine ⟨h2, Nat.le_trans (nodup_lt_len h.nd h.lt) g.few, by unfold shutD; rw [List.length_map]; exact g.has, by unfold shutD; rw [List.length_map]; exact g.eight, fun p hp => ?_, fun p hp => ?_, ?_⟩
  · obtain ⟨q, hq, rfl⟩ := List.mem_map.mp hp
    exact cutE_pm (g.perm q hq) h.lt h.nd (h.shut q hq)
  · obtain ⟨q, hq, rfl⟩ := List.mem_map.mp hp
    exact g.name q hq
  · unfold shutD
    rw [List.map_map]
    exact g.apart
def sp_shut_machine (C0 : Addr) : Sp := fun vs H Q _ => ∃ (a s : Addr) (n : Nat) (ds : Ds) (T : List Nat), vs = [.ref a, .ref s] ∧ Mac C0 H a n ds ∧ Good n ds ∧ PlT H s (encI T) ∧ ShutT n ds T ∧ 2 ≤ T.length ∧ ∀ m H', Ex H H' → Mac C0 H' m T.length (shutD T ds) → Q (.ref m) H'
theorem ok_shut_machine (T : Tx K mg C A FD) : (FnOk P w K mg base CX0 6 (A 41) (FD 41) ["machine", "states"] (sp_shut_machine C)) := by
  refine T.d_shut_machine.F.ok sc_shut_machine (fun vs H Q E h => by obtain ⟨a, s, n, ds, t, rfl, hm, hg, hs, ht, h2, k⟩ := h; rfl) (fun cdv A0 outer s H vs Q E hr h => ?_)
  obtain ⟨a, s, n, ds, t, rfl, hm, hg, hs, ht, h2, k⟩ := h
  have hu := hu_of hr
  have hu64 := hr.units
  have hu2 : _ + 65 < cLine := (fun {A : Around} {k} (hr : Room k A) => (by have := hr.un; omega : A.units + 65 < cLine)) hr
  refine ⟨_, (pss_cons (ps_if (pt_cmpR op_lt (pe_callB (kcall_len K) (by rfl) T.z_len (by decide +kernel) (pa_cons (pv 1) pa_nil)) pe_int (nomark _)) (pss_one ps_never) pss_nil)
    (pss_cons (ps_set (i := 2) sc_shut_machine.nd rfl (.inl rfl) (pe_call (ok_shut_leak T) (hr.mono (by decide)) (by rfl) T.d_shut_leak.g T.d_shut_leak.F.kp T.d_shut_leak.b .nil pass0 (pa_cons (pv 0) (pa_cons (pv 1) pa_nil))))
    (pss_cons (ps_if (pt_cmpR op_notN (pv 2) pe_non (nomark _)) (pss_one ps_never) pss_nil)
    (pss_one (ps_ret (pe_make T.mkC (ok_Machine_init T) (hr.mono (by decide)) (by rfl) T.gC T.d_Machine_init.b .nil pass0 (pa_cons (pe_lc rfl sc_shut_machine.nd (kpi_tup K (kpe_fld K (pv 0))) (blkOk_by (own := [("name", 3), ("images", 4)]) (N := N_shut_machine) (sc := defScope s_shut_machine) (by decide +kernel)) (fun _ _ _ _ _ => (kpg_tup K (n := 2) (by rfl) (pgs_cons (pg_name (i := 3) sc_shut_machine.nd rfl (by first | exact .inl rfl | exact .inr rfl)) (pgs_cons (pg_name (i := 4) sc_shut_machine.nd rfl (by first | exact .inl rfl | exact .inr rfl)) pgs_nil)))) (fun _ _ _ _ _ => pts_nil) (fun _ _ _ _ _ => (pe_tup (pa_cons (pv 3) (pa_cons (pe_lc rfl sc_shut_machine.nd (kpi_tup K (pv 1)) (blkOk_by (own := [("state", 5)]) (N := N_shut_machine) (by with_unfolding_all rfl)) (fun _ _ _ _ _ => (pg_name (i := 5) sc_shut_machine.nd rfl (by first | exact .inl rfl | exact .inr rfl))) (fun _ _ _ _ _ => pts_nil) (fun _ _ _ _ _ => (kpe_idxI K (pv 1) (pa_cons (pe_ix (kix_tup K) (pv 4) (pv 5) (fun _ _ => rfl)) pa_nil)))) pa_nil))))) pa_nil))))))), ?_⟩
  clear hu hu64 hu2
  walk_at "wp"
  have hm0 := hm
  obtain ⟨dx, d, nm, vs, hm1, hm2, hm3, hm4⟩ := hm.ex
  have few := hg.few
  have htl : t.length ≤ n := nodup_lt_len ht.nd ht.lt
  refine r_lenT hs.sq ?_
  rw [encI_len]
  walk_at "wp"
  refine i_dF (by omega) ?_
  walk_at "wp"
  refine ⟨a, s, n, ds, t, rfl, hm0, hg, hs, ht, ?_⟩
  walk_at "wp"
  refine ⟨rfl, ?_⟩
  walk_at "wp"
  refine i_F ?_
  walk_at "wp"
  refine e_make ?_
  walk_at "wp"
  refine ⟨a, C, dx, _, _, rfl, hm1, T.cl, T.nD, rfl, ?_⟩
  refine ⟨d, rfl, ⟨_, hm2.sq⟩, lc_J (fun D i acc H1 => InD H1 D acc (shutD t (ds.take i))) (wk_tup hm2.sq) (by rw [hm3.1]; have := hg.eight; omega) (fun D H1 _ _ => InD.nil _ _) (fun _ _ _ _ _ e h => h.keep e) (fun D i acc x H2 H3 hi e hD hI y P NN hP hNN => ?_) fun D acc H2 hD e hDl _ hI => ?_⟩
  · obtain ⟨rfl, hx⟩ := y
    obtain ⟨x', f, p, q', hi2, rfl, hp, hq'⟩ := (hm3.ei e.ei).get hx
    have hmem := List.mem_of_getElem? hi2
    have pf : Pm n f := hg.perm _ hmem
    have pc := cutE_pm pf ht.lt ht.nd (ht.shut _ hmem)
    refine g_two (stT hp) ?_
    refine ⟨rfl, ?_⟩
    walk_at "wp"
    have hs3 := e.plT hs
    refine ⟨s, rfl, ⟨_, hs3.sq⟩, lc_V (encI (cutE t f)) (wk_tup hs3.sq) (by rw [encI_len]; omega) (by rw [encI_len, encI_len, pc.len]) (fun j y z H4 H5 hz e4 hy R hR => ?_) fun D2 H4 hD2 e4 hD2l => ?_⟩
    · obtain ⟨rfl, hy⟩ := hy
      obtain ⟨hj, rfl⟩ := encI_at hy
      obtain ⟨_, rfl⟩ := encI_at hz
      refine ⟨rfl, ?_⟩
      walk_at "wp"
      refine ⟨s, _, rfl, e4.plT hs3, ?_⟩
      walk_at "wp"
      have hjt := ap_mem hj
      refine r_ixE (stT (e4 _ _ hq')) (by rw [pf.len]; exact ht.lt _ hjt) ?_
      walk_at "wp"
      have hin := ht.shut _ hmem _ hjt
      have hap : ap (cutE t f) j = t.idxOf (ap f (ap t j)) := by
        rw [ap_cutE hj]
        have := ap_get hj
        rw [List.getElem?_eq_getElem hj] at this
        rw [Option.some.inj this]
      have hidx : t.idxOf (ap f (ap t j)) < t.length := List.idxOf_lt_length_of_mem hin
      refine ⟨t.map fun (x : Nat) => (x : Int), _, t.idxOf (ap f (ap t j)), rfl, by rw [← encI_ints]; exact (e4.plT hs3).sq, ?_, fun m hm2 e2 => ?_, ?_⟩
      · rw [List.getElem?_map, List.getElem?_eq_getElem hidx, List.getElem_idxOf hidx]
        rfl
      · rw [List.getElem?_map, Option.map_eq_some_iff] at e2
        obtain ⟨y, h1, h2⟩ := e2
        have : y = ap f (ap t j) := by omega
        subst this
        have h3 := (List.getElem?_eq_some_iff.mp h1)
        have h4 := List.not_of_lt_findIdx (xs := t) (p := (· == ap f (ap t j))) hm2
        rw [h3.2] at h4
        simp at h4
      · rw [hap] at hR
        exact hR _ (Ex.refl _)
    · refine al (by walk_at "sz") fun p2 H5 hp2 e5 h5 => ?_
      have hD4 := e4 _ _ hD
      refine hP _ H5 (e4.trans e5) ?_
      have ht2 : ds.take (i + 1) = ds.take i ++ [(x', f)] := by
        rw [List.take_succ, hi2]
        rfl
      rw [ht2]
      unfold shutD
      rw [List.map_append]
      exact (hI.keep fun b o _ h => e5 _ _ (e4 _ _ h)).snoc h5 (e5 _ _ hD2l) (fun e0 => by rw [e0, hD4] at hp2; cases hp2) (fun e0 => by rw [e0, hD] at hD2; cases hD2)
  · walk_at "wp"
    rw [hm3.1, List.take_length] at hI
    exact r_make hDl hI.ins (hg.shut ht h2) fun m H3 e3 mac => k m H3 (e.trans e3) mac

end
end Eo
namespace Eo
open PySem PyProof.Rows L2 L2.DX
/-! words of the walk: wp goes on where nothing is open; hl looks an object up; ex: what stood stands -/
local macro_rules | `(tactic| walk_at "hl") => `(tactic| first | assumption | exact PlT.sq (by assumption) | (refine stT ?_; walk_at "hl") | (refine stL ?_; walk_at "hl") | (refine Ex.at (by assumption) ?_; walk_at "hl") | (refine Mu.tup (by assumption) ?_; walk_at "hl") | (refine Ex.sqT (by assumption) ?_; walk_at "hl") | (refine Ex.sqL (by assumption) ?_; walk_at "hl") | (refine Ex.plT (by assumption) ?_; walk_at "hl") | (refine Mu.plT (by assumption) ?_; walk_at "hl"))
local macro_rules | `(tactic| walk_at "ex") => `(tactic| first | assumption | exact Ex.refl _ | (refine Ex.trans ?_ (by assumption); walk_at "ex") | (refine Ex.mu ?_ (by assumption) (by first | assumption | walk_at "fr"); walk_at "ex"))
local macro_rules | `(tactic| walk_at "fr") => `(tactic| first | assumption | (refine Ex.free (by assumption) ?_; walk_at "fr"))
local macro_rules | `(tactic| walk_at "rf") => `(tactic| with_unfolding_all rfl)
local macro_rules | `(tactic| walk_at "wp") => `(tactic| repeat (with_reducible first
  | refine q_seq ?_ | refine q_asg ?_ | refine q_ret ?_ | refine q_drop ?_ | refine q_if ?_ | refine q_next ?_ | refine q_par ?_ | refine q_par3 ?_ | refine q_retN ?_ | refine q_cont ?_ | refine q_brk ?_
  | refine e_var (by with_unfolding_all rfl) ?_ | refine e_c ?_ | refine e_op ?_ | refine e_cons ?_ | refine e_nil ?_ | refine e_test ?_ | refine e_B ?_ | refine e_yes ?_ | refine e_cb ?_ | refine e_call ?_ | refine e_then ?_ | refine e_tup ?_ | refine e_lst ?_
  | refine x_bl ?_ | refine i_T ?_ | refine i_F ?_ | refine x_two ?_ | refine x_three ?_
  | refine r_I0 ?_ | refine r_add ?_ | refine r_ip ?_ | refine g_nm ?_ | refine r_eqI ?_ | refine r_neI ?_ | refine r_eq (by with_unfolding_all rfl) ?_ | refine r_ne (by with_unfolding_all rfl) ?_
  | refine e_not ?_ | refine e_and ?_ | refine e_or ?_ | refine e_andV ?_ | refine e_orV ?_ | refine e_notV ?_ | refine e_ifx ?_ | refine e_idxF ?_ | refine e_idxI ?_ | refine e_sl ?_ | refine e_part ?_ | refine e_nopart ?_ | refine f_revA ?_ | refine e_lenSet ?_ | refine l_dcT ?_ | refine e_sadd ?_ | refine q_asgS ?_ | refine q_augS ?_ | refine e_tupRg ?_ | refine e_lstRg ?_ | refine e_rg1 ?_ | refine e_rg2 ?_ | refine e_dget ?_ | refine e_din ?_ | refine e_dnotin ?_ | refine e_dget2 ?_ | refine q_dput ?_ | refine e_un ?_ | refine e_chain ?_ | refine e_bm ?_ | refine e_bm0 ?_ | refine e_fld ?_ | refine q_asgT ?_
  | refine l_any ?_ | refine l_tup ?_ | refine l_list ?_ | refine l_rng1 ?_ | refine l_rng2 ?_ | refine l_str ?_ | refine l_enumL ?_ | refine l_enumT ?_ | refine l_zip ?_ | refine l_zipM ?_
  | refine f_tup ?_ | refine f_list ?_ | refine f_rng1 ?_ | refine f_enumL ?_ | refine f_enumT ?_))
local macro_rules | `(tactic| walk_at "sz") => `(tactic| first | decide | (refine small ?_; simp; done) | (refine small ?_; simp; omega) | (refine smallL ?_; simp; done) | (refine smallL ?_; simp; omega) | (simp; done) | (simp; omega))
section
variable {P : Program} {w : World} {K : PySem.W.Frag} {mg : Str → Option Value} {base : Heap} {C : Addr} {A : Nat → Addr} {FD : Nat → FuncData}
theorem in_W {J : It} {n : Nat} {G : Hp → Prop} {Y : Nat → Hp → V → Hp → Prop} (w : Walk J n G Y) {H4 : Hp} {Nx : Hp → Prop} {B : (Hp → Prop) → V → Hp → Prop} (Pv : Nat → Hp → Prop) (h0 : Pv 0 H4) (hG : ∀ i H, i ≤ n → Pv i H → G H) (body : ∀ j x H H', j < n → Pv j H → Y j H x H' → B (Pv (j + 1)) x H') (hd : ∀ H, Pv n H → Nx H) :
    ∃ W1 : Nat → Nat → Hp → Prop, (∃ m, W1 0 m H4) ∧ ∀ j k H, W1 j k H → (J.stop j H ∧ Nx H) ∨ (J.go j H ∧ ∃ Nx1 : Hp → Prop, (∀ H', Nx1 H' → ∃ k', k' < k ∧ W1 (j + 1) k' H') ∧ ∀ x H', J.yld j H x H' → B Nx1 x H') := by
  refine ⟨fun i m H => m = n - i ∧ i ≤ n ∧ Pv i H, ⟨n, by simp, Nat.zero_le _, h0⟩, ?_⟩
  rintro i m H ⟨rfl, hi, p⟩
  have q := hG i H hi p
  by_cases hlt : i < n
  · exact .inr ⟨w.goes i H hlt q, Pv (i + 1), fun H' p' => ⟨n - (i + 1), by omega, rfl, hlt, p'⟩, fun x H' y => body i x H H' hlt p (w.yields i H x H' hlt q y)⟩
  · have e : i = n := by omega
    subst e
    exact .inl ⟨w.stops H q, hd H p⟩
def DicAt2 (H : Hp) (d : Addr) (ds : Ds) : Prop := ∃ kvs : List (Key × V), H d = some (.dK kvs) ∧ ∀ x, (∃ f q, (x, f) ∈ ds ∧ valV kvs (Sum.inr x) = some (.ref q) ∧ H q = some (.tup (encI f))) ∨ (x ∉ nms ds ∧ valV kvs (Sum.inr x) = none)
theorem DicAt2.ex {H H' : Hp} {d : Addr} {ds : Ds} (h : DicAt2 H d ds) (e : Ex H H') : DicAt2 H' d ds := let ⟨kvs, h1, h2⟩ := h; ⟨kvs, e _ _ h1, fun x => (h2 x).imp (fun ⟨f, q, a, b, c⟩ => ⟨f, q, a, b, e _ _ c⟩) id⟩
theorem r_dictF2 {K : PySem.W.Frag} {d : Addr} {H : Hp} {Q : VK} {vs : List V} {ds : Ds} (hd : PlT H d vs) (hv : DeedsAt H vs ds) (nd : (nms ds).Nodup) (k : ∀ p H', H p = none → Ex H H' → DicAt2 H' p ds → Q (.ref p) H') : rDictF K [.ref d] H Q := by
  have hex : ∀ j, j < ds.length → ∃ u : Addr × (Key × V), vs[j]? = some (.ref u.1) ∧ SqT K H u.1 [kV u.2.1, u.2.2] ∧ ∃ x f q, ds[j]? = some (x, f) ∧ u.2 = (Sum.inr x, V.ref q) ∧ H q = some (.tup (encI f)) := fun j hj => by
    obtain ⟨p, q, h1, h2, h3⟩ := hv.2 j _ _ (List.getElem?_eq_getElem hj)
    exact ⟨(p, (Sum.inr _, .ref q)), h1, stT h2, _, _, q, List.getElem?_eq_getElem hj, rfl, h3⟩
  obtain ⟨us, hl, hu⟩ := listed ds.length hex
  have ev : vs = (us.map (·.1)).map V.ref := List.ext_getElem? fun j => by
    by_cases hj : j < ds.length
    · have e := List.getElem?_eq_getElem (l := us) (i := j) (by omega)
      rw [(hu j _ e).1, List.getElem?_map, List.getElem?_map, e]
      rfl
    · rw [List.getElem?_eq_none (by rw [hv.1]; omega), List.getElem?_eq_none (by rw [List.length_map, List.length_map]; omega)]
  have hp : Paired (fun p kv => SqT K H p [kV kv.1, kv.2]) (us.map (·.1)) (us.map (·.2)) := pairedOf (by rw [List.length_map, List.length_map]) fun j x y h1 h2 => by
    rw [List.getElem?_map, Option.map_eq_some_iff] at h1 h2
    obtain ⟨u, h1, rfl⟩ := h1
    obtain ⟨u', h2, rfl⟩ := h2
    rw [h1] at h2
    cases h2
    exact (hu j _ h1).2.1
  have ek : ((us.map (·.2)).map (·.1)) = (ds.map (·.1)).map Sum.inr := List.ext_getElem? fun j => by
    by_cases hj : j < ds.length
    · have e := List.getElem?_eq_getElem (l := us) (i := j) (by omega)
      obtain ⟨_, _, x, f, q, h1, h2, _⟩ := hu j _ e
      rw [List.getElem?_map, List.getElem?_map, e, List.getElem?_map, List.getElem?_map, h1]
      simp [h2]
    · rw [List.getElem?_eq_none (by simp; omega), List.getElem?_eq_none (by simp; omega)]
  have nd2 : ((us.map (·.2)).map (·.1)).Nodup := by rw [ek]; exact nodup_map nd fun a _ b _ e => Sum.inr.inj e
  refine ⟨d, us.map (·.1), us.map (·.2), rfl, by rw [← ev]; exact hd, hp, fun p hp0 => k p _ hp0 (Ex.new hp0) ⟨_, upd_same, fun x => ?_⟩⟩
  rw [mergeK_nodup (fun _ _ _ h => by cases h) nd2, List.nil_append]
  by_cases hx : x ∈ nms ds
  · obtain ⟨⟨x', f⟩, hm, rfl⟩ := List.mem_map.mp hx
    obtain ⟨j, hj, e⟩ := List.getElem_of_mem hm
    have e1 := List.getElem?_eq_getElem (l := us) (i := j) (by omega)
    obtain ⟨_, _, x2, f', q, h1, h2, h3⟩ := hu j _ e1
    rw [List.getElem?_eq_getElem hj, e] at h1
    cases h1
    exact .inl ⟨f, q, hm, valV_nodup nd2 (List.mem_map.mpr ⟨_, List.mem_of_getElem? e1, h2⟩), by rw [upd_ne (ne_of_none h3 hp0)]; exact h3⟩
  · refine .inr ⟨hx, valV_none ?_⟩
    rw [ek]
    intro m
    obtain ⟨y, hy, e⟩ := List.mem_map.mp m
    cases e
    exact hx hy
def Lc2 (J : It) (g : TG) (tt : TT) (wi1 : TI) (g1 : TG) (tt1 : TT) (te : TE) (vs vs1 : List Nat) (σ : L2.St) (H1 : Hp) (Q : VK) : Prop := ∀ D, H1 D = none → ∃ W : Nat → Nat → Hp → Prop, (∃ m, W 0 m (upd H1 D (.lst []))) ∧ ∀ i m H, W i m H →
  (J.stop i H ∧ Q (.ref D) H) ∨ (J.go i H ∧ ∃ Nx : Hp → Prop, (∀ H', Nx H' → ∃ m', m' < m ∧ W (i + 1) m' H') ∧ ∀ x H', J.yld i H x H' → g x (wipe σ vs) H' fun σ2 H2 => wipe σ2 vs = wipe σ vs ∧ tt σ2 H2 fun b H3 =>
    if b = true then wi1 σ2 H3 fun J1 H4 => ∃ W1 : Nat → Nat → Hp → Prop, (∃ m, W1 0 m H4) ∧ ∀ j k H, W1 j k H →
      (J1.stop j H ∧ Nx H) ∨ (J1.go j H ∧ ∃ Nx1 : Hp → Prop, (∀ H', Nx1 H' → ∃ k', k' < k ∧ W1 (j + 1) k' H') ∧ ∀ x H', J1.yld j H x H' → g1 x (wipe σ2 vs1) H' fun σ3 H5 => wipe σ3 vs1 = wipe σ2 vs1 ∧ tt1 σ3 H5 fun b H6 =>
        if b = true then te σ3 H6 fun y H7 => ∃ acc, H7 D = some (.lst acc) ∧ acc.length < sizeLine ∧ Nx1 (upd H7 D (.lst (acc ++ [y]))) else Nx1 H6) else Nx H3)
theorem e_lc2T {K : PySem.W.Frag} {ta : TE} {wi1 : TI} {g1 : TG} {tt1 : TT} {vs1 : List Nat} {σ : L2.St} {H : Hp} {Q : VK} {g : TG} {tt : TT} {te : TE} {vs : List Nat} (h : ta σ H fun x H1 => ∃ a, x = .ref a ∧ (∃ xs, SqT K H1 a xs) ∧ Lc2 (Itt K a) g tt wi1 g1 tt1 te vs vs1 σ H1 Q) : tLc2 (iTup K ta) g tt wi1 g1 tt1 te vs vs1 σ H Q := h
/-- [.. for left in lefts for right in rights], both plain names, the items told ahead -/
theorem lc2_V {K : PySem.W.Frag} {tb te : TE} {i j : Nat} {σ : L2.St} {H : Hp} {Q : VK} {a b : Addr} {xs zs : List V} (ys : List V) (hx : SqT K H a xs) (hz : SqT K H b zs) (hl : ys.length = xs.length * zs.length) (hn : ys.length ≤ 50000)
    (w1 : ∀ x, wipe ((wipe σ [i, j]).set i (some x)) [i, j] = wipe σ [i, j]) (w2 : ∀ x z, wipe ((wipe ((wipe σ [i, j]).set i (some x)) [j]).set j (some z)) [j] = wipe ((wipe σ [i, j]).set i (some x)) [j])
    (inner : ∀ (x : V) (H2 : Hp) (R : VK), R (.ref b) H2 → tb ((wipe σ [i, j]).set i (some x)) H2 R)
    (step : ∀ u v x z y H2, xs[u]? = some x → zs[v]? = some z → ys[u * zs.length + v]? = some y → Ex H H2 → ∀ R : V → Hp → Prop, R y H2 → te ((wipe ((wipe σ [i, j]).set i (some x)) [j]).set j (some z)) H2 R)
    (k : ∀ D H1, H D = none → Ex H H1 → H1 D = some (.lst ys) → Q (.ref D) H1) : Lc2 (Itt K a) (gName i) tYes (iTup K tb) (gName j) tYes te [i, j] [j] σ H Q := by
  intro D hD
  have nxt : ∀ (u : Nat) (y : V) (H2 : Hp), Ex H H2 → H2 D = some (.lst (ys.take u)) → ys[u]? = some y → ∃ acc, H2 D = some (.lst acc) ∧ acc.length < sizeLine ∧ (Ex H (upd H2 D (.lst (acc ++ [y]))) ∧ (upd H2 D (.lst (acc ++ [y]))) D = some (.lst (ys.take (u + 1)))) := fun u y H2 e h hy => by
    have hu := (List.getElem?_eq_some_iff.mp hy).1
    refine ⟨_, h, smallL (by rw [List.length_take]; omega), e.mu (Mu.of h rfl) hD, ?_⟩
    rw [upd_same, List.take_succ, hy]
    rfl
  refine in_W (walk_tup (xs := xs)) (fun u H' => Ex H H' ∧ H' D = some (.lst (ys.take (u * zs.length)))) ⟨Ex.new hD, by rw [upd_same, Nat.zero_mul]; rfl⟩ (fun u H' _ p => p.1.sqT hx) (fun u x H1 H2 hu p y => ?_) fun H' p => k D H' hD p.1 (by
    have := p.2
    rw [← hl, List.take_length] at this
    exact this)
  obtain ⟨rfl, hxu⟩ := y
  refine ⟨w1 x, ?_⟩
  refine e_yes (i_T ?_)
  refine inner x H2 _ ?_
  refine ⟨b, rfl, ⟨_, p.1.sqT hz⟩, ?_⟩
  refine in_W (walk_tup (xs := zs)) (fun v H' => Ex H H' ∧ H' D = some (.lst (ys.take (u * zs.length + v)))) p (fun v H' _ q => q.1.sqT hz) (fun v z H3 H4 hv q y => ?_) fun H' q => ⟨q.1, by rw [Nat.succ_mul]; exact q.2⟩
  obtain ⟨rfl, hzv⟩ := y
  refine ⟨w2 x z, ?_⟩
  refine e_yes (i_T ?_)
  have hlt : u * zs.length + v < ys.length := by rw [hl]; exact num_lt hu hv
  exact step u v x z _ _ hxu hzv (List.getElem?_eq_getElem hlt) q.1 _ (nxt _ _ _ q.1 q.2 (List.getElem?_eq_getElem hlt))
theorem dget2_of {H : Hp} {d q : Addr} {ds : Ds} {n : Nat} {x : Str} (nd : (nms ds).Nodup) (h : DicAt2 H d ds) (hq : H q = some (.tup (encI (idn n)))) : ∃ o, DGet H d (.str x) o ∧ ∃ p, o.getD (.ref q) = .ref p ∧ H p = some (.tup (encI (dl n ds x))) := by
  obtain ⟨kvs, h1, h2⟩ := h
  refine ⟨_, dget_S h1 rfl, ?_⟩
  rcases h2 x with ⟨f, p, hm, hv, hp⟩ | ⟨hn, hv⟩
  · rw [hv]
    exact ⟨p, rfl, by rw [dl_in nd hm]; exact hp⟩
  · rw [hv]
    refine ⟨q, rfl, ?_⟩
    have : dl n ds x = idn n := by
      unfold dl
      have : ds.lookup x = none := by
        rw [List.lookup_eq_none_iff]
        intro p hp
        by_cases e : x = p.1
        · subst e
          exact absurd (List.mem_map.mpr ⟨p, hp, rfl⟩) hn
        · simpa using e
      rw [this]
    rw [this]
    exact hq
theorem isD_of {H : Hp} {d : Addr} {ds : Ds} (h : DicAt2 H d ds) : IsD H d := let ⟨kvs, h1, _⟩ := h; .inl ⟨kvs, .inl h1⟩
def sideN (ds es : Ds) : List Str := nms ds ++ (nms es).filter fun x => decide (x ∉ nms ds)
def sideD (n m : Nat) (ds es : Ds) : Ds := (sideN ds es).map fun x => (x, side (dl n ds x) (dl m es x))
theorem Good.side {n m : Nat} {ds es : Ds} (g : Good n ds) (h : Good m es) (hnm : n * m ≤ 49) (h8 : (sideN ds es).length ≤ 8) : Good (n * m) (sideD n m ds es) := by
  have e0 : nms (sideD n m ds es) = sideN ds es := by
    unfold sideD nms
    rw [List.map_map]
    exact List.map_id _
  refine ⟨?_, hnm, ?_, by unfold sideD; rw [List.length_map]; exact h8, fun p hp => ?_, fun p hp => ?_, ?_⟩
  · have := Nat.mul_le_mul g.two h.two
    omega
  · unfold sideD
    rw [List.length_map]
    unfold sideN
    rw [List.length_append, List.length_map]
    have := g.has
    omega
  · obtain ⟨x, hx, rfl⟩ := List.mem_map.mp hp
    exact side_pm (dl_pm g.perm x) (dl_pm h.perm x)
  · obtain ⟨x, hx, rfl⟩ := List.mem_map.mp hp
    rcases List.mem_append.mp hx with hx | hx
    · exact g.names x hx
    · exact h.names x (List.mem_filter.mp hx).1
  · show (nms (sideD n m ds es)).Nodup
    rw [e0]
    refine List.nodup_append.mpr ⟨g.apart, h.apart.sublist List.filter_sublist, fun x hx y hy e => ?_⟩
    subst e
    have := (List.mem_filter.mp hy).2
    simp at this
    exact absurd hx (by simpa using this)
def sp_side_machine (C0 : Addr) : Sp := fun vs H Q _ => ∃ (a b : Addr) (n m : Nat) (ds es : Ds), vs = [.ref a, .ref b] ∧ Mac C0 H a n ds ∧ Mac C0 H b m es ∧ Good n ds ∧ Good m es ∧ n * m ≤ 49 ∧ (sideN ds es).length ≤ 8 ∧ ∀ p H', Ex H H' → Mac C0 H' p (n * m) (sideD n m ds es) → Q (.ref p) H'
theorem ok_side_machine (T : Tx K mg C A FD) : (FnOk P w K mg base CX0 6 (A 19) (FD 19) ["one", "other"] (sp_side_machine C)) := by
  refine T.d_side_machine.F.ok sc_side_machine (fun vs H Q E h => by obtain ⟨a, b, n, m, ds, es, rfl, ha, hb, hg, hh, hnm, h8, k⟩ := h; rfl) (fun cdv A0 outer s H vs Q E hr h => ?_)
  obtain ⟨a, b, n, m, ds, es, rfl, ha, hb, hg, hh, hnm, h8, k⟩ := h
  obtain ⟨_, g_MOST_STATES⟩ := T.g_MOST_STATES
  obtain ⟨_, g_MOST_DEEDS⟩ := T.g_MOST_DEEDS
  have hu := hu_of hr
  have hu64 := hr.units
  have hu2 : _ + 65 < cLine := (fun {A : Around} {k} (hr : Room k A) => (by have := hr.un; omega : A.units + 65 < cLine)) hr
  refine ⟨_, (pss_cons (ps_set (i := 2) sc_side_machine.nd rfl (.inl rfl) (pe_op op_cat (pe_callTy (kcall_list K) (by rfl) T.z_list (by decide +kernel) (pa_cons (kpe_fld K (pv 0)) pa_nil)) (pe_lc rfl sc_side_machine.nd (kpi_tup K (kpe_fld K (pv 1))) (blkOk_by (own := [("name", 3)]) (N := N_side_machine) (sc := defScope s_side_machine) (by decide +kernel)) (fun _ _ _ _ _ => (pg_name (i := 3) sc_side_machine.nd rfl (by first | exact .inl rfl | exact .inr rfl))) (fun _ _ _ _ _ => (pts_one (pt_cmpR (kop_notIn K) (pv 3) (kpe_fld K (pv 0)) rfl))) (fun _ _ _ _ _ => (pv 3)))))
    (pss_cons (ps_if (pt_cmpR op_gt (pe_op op_mul (kpe_fld K (pv 0)) (kpe_fld K (pv 1))) (pe_glob (v := .int 49) (by rfl) g_MOST_STATES ⟨_, rfl⟩) (nomark _)) (pss_one ps_never) pss_nil)
    (pss_cons (ps_if (pt_cmpR op_gt (pe_callB (kcall_len K) (by rfl) T.z_len (by decide +kernel) (pa_cons (pv 2) pa_nil)) (pe_glob (v := .int 8) (by rfl) g_MOST_DEEDS ⟨_, rfl⟩) (nomark _)) (pss_one ps_never) pss_nil)
    (pss_cons (ps_par (i := 4) (j := 5) rfl sc_side_machine.nd rfl rfl (by decide) rfl rfl (pa_cons (pe_callTy (kcall_dictF K rfl) (by rfl) T.z_dict (by decide +kernel) (pa_cons (kpe_fld K (pv 0)) pa_nil)) (pa_cons (pe_callTy (kcall_dictF K rfl) (by rfl) T.z_dict (by decide +kernel) (pa_cons (kpe_fld K (pv 1)) pa_nil)) pa_nil)) rfl)
    (pss_cons (ps_set (i := 6) sc_side_machine.nd rfl (.inl rfl) (pe_lst pa_nil))
    (pss_cons (ps_for PassesOwn.never rfl (kpi_list K (pv 2)) (pg_name (i := 3) sc_side_machine.nd rfl (by first | exact .inl rfl | exact .inr rfl)) (pss_cons (ps_set (i := 7) sc_side_machine.nd rfl (.inl rfl) (pe_dget2 hu (pv 4) (pv 3) (pe_tupRg rfl (by rfl) T.z_tuple (prg_1 (by rfl) T.z_range (kpe_fld K (pv 0)))) ⟨rfl, rfl, rfl, rfl⟩))
      (pss_cons (ps_set (i := 8) sc_side_machine.nd rfl (.inr rfl) (pe_dget2 hu (pv 5) (pv 3) (pe_tupRg rfl (by rfl) T.z_tuple (prg_1 (by rfl) T.z_range (kpe_fld K (pv 1)))) ⟨rfl, rfl, rfl, rfl⟩))
      (pss_one (ps_expr (kpe_bm K PySem.F.plainAttrs_list PySem.F.slot_list_append PySem.F.type_list_append mt_append (pv 6) (pa_cons (pe_tup (pa_cons (pv 3) (pa_cons (pe_lc2 (vs1 := [10]) rfl sc_side_machine.nd (kpi_tup K (pv 7)) (blkOk_by (own := [("left", 9), ("right", 10)]) (N := N_side_machine) (sc := defScope s_side_machine) (by decide +kernel)) (by decide) (fun _ _ _ _ _ => (pg_name (i := 9) sc_side_machine.nd rfl (by first | exact .inl rfl | exact .inr rfl))) (fun _ _ _ _ _ => pts_nil) (fun _ _ _ _ _ => (kpi_tup K (pv 8))) (fun _ _ _ _ _ => (pg_name (i := 10) sc_side_machine.nd rfl (by first | exact .inl rfl | exact .inr rfl))) (fun _ _ _ _ _ => pts_nil) (fun _ _ _ _ _ => (pe_op op_add (pe_op op_mul (pv 9) (kpe_fld K (pv 1))) (pv 10)))) pa_nil))) pa_nil)))))))
    (pss_one (ps_ret (pe_make T.mkC (ok_Machine_init T) (hr.mono (by decide)) (by rfl) T.gC T.d_Machine_init.b .nil pass0 (pa_cons (pv 6) pa_nil)))))))))), ?_⟩
  clear hu hu64 hu2
  walk_at "wp"
  obtain ⟨dx, d, nm, vs, hm1, hm2, hm3, hm4⟩ := ha.ex
  obtain ⟨dx', d', nm', vs', hn1, hn2, hn3, hn4⟩ := hb.ex
  rw [names_map] at hm4 hn4
  have f1 := hg.few
  have f2 := hh.few
  have t1 := hg.two
  have t2 := hh.two
  refine ⟨a, C, dx, _, _, rfl, hm1, T.cl, T.nN, rfl, ?_⟩
  walk_at "wp"
  refine ⟨nm, _, rfl, .inr hm4.sq, fun l hl => ?_⟩
  have e1 : Ex H (upd H l (.lst ((nms ds).map V.str))) := Ex.new hl
  have hl1 : upd H l (.lst ((nms ds).map V.str)) l = some (.lst ((nms ds).map V.str)) := upd_same
  generalize upd H l (.lst ((nms ds).map V.str)) = H1 at e1 hl1
  walk_at "wp"
  refine ⟨b, C, dx', _, _, rfl, e1 _ _ hn1, T.cl, T.nN, rfl, ?_⟩
  refine ⟨nm', rfl, ⟨_, (e1.plT hn4).sq⟩, lc_I (fun i acc H1 => acc = (((nms es).take i).filter fun x => decide (x ∉ nms ds)).map V.str) (wk_tup (e1.plT hn4).sq) (by rw [List.length_map, List.length_map]; have := hh.eight; omega) (fun H1 _ => rfl) (fun _ _ _ _ _ h => h) (fun i acc x H2 H3 hi e hI y P NN hP hNN => ?_) fun D acc H2 hD e2 hDl _ hI => ?_⟩
  · obtain ⟨rfl, hx⟩ := y
    rw [List.getElem?_map, Option.map_eq_some_iff] at hx
    obtain ⟨z, hz, rfl⟩ := hx
    refine ⟨rfl, ?_⟩
    walk_at "wp"
    refine ⟨a, C, dx, _, _, rfl, e _ _ (e1 _ _ hm1), T.cl, T.nN, rfl, ?_⟩
    refine r_ninS (.inr (e.plT (e1.plT hm4)).sq) ?_
    walk_at "wp"
    have ht : (nms es).take (i + 1) = (nms es).take i ++ [z] := by rw [List.take_succ, hz]; rfl
    refine i_n (fun h => ?_) (fun h => ?_)
    · walk_at "wp"
      refine hP _ _ (Ex.refl _) ?_
      rw [hI, ht, List.filter_append, List.map_append]
      simp [h]
    · walk_at "wp"
      refine hNN _ (Ex.refl _) ?_
      rw [hI, ht, List.filter_append, List.map_append]
      simp [h]
  rw [List.length_map, List.take_length] at hI
  subst hI
  have g8 := hg.eight
  have hh8 := hh.eight
  have hfl : ((nms es).filter fun x => decide (x ∉ nms ds)).length ≤ es.length := by
    have := List.length_filter_le (fun x => decide (x ∉ nms ds)) (nms es)
    rw [List.length_map] at this
    exact this
  have hcl : ((nms ds).map V.str).length + (((nms es).filter fun x => decide (x ∉ nms ds)).map V.str).length = (sideN ds es).length := by unfold sideN; simp
  refine r_cat (e2 _ _ hl1) hDl (small (by rw [hcl]; omega)) fun q H3 hq e3 h3 => ?_
  rw [← List.map_append] at h3
  have hN : H3 q = some (.lst ((sideN ds es).map V.str)) := h3
  have e13 := (e1.trans e2).trans e3
  walk_at "wp"
  refine ⟨a, C, dx, _, _, rfl, e13 _ _ hm1, T.cl, T.nS, rfl, ?_⟩
  walk_at "wp"
  refine ⟨b, C, dx', _, _, rfl, e13 _ _ hn1, T.cl, T.nS, rfl, ?_⟩
  refine r_mulR (by omega) (by omega) ?_
  walk_at "wp"
  have hnmI : ((n : Int) * (m : Int)) = ((n * m : Nat) : Int) := by simp
  refine i_dF (by rw [hnmI]; omega) ?_
  walk_at "wp"
  refine r_lenL (stL hN) ?_
  rw [List.length_map]
  walk_at "wp"
  refine i_dF (by omega) ?_
  walk_at "wp"
  refine ⟨a, C, dx, _, _, rfl, e13 _ _ hm1, T.cl, T.nD, rfl, ?_⟩
  walk_at "wp"
  refine r_dictF2 (e13.plT hm2) (hm3.ei e13.ei) hg.apart fun fd H4 hfd e4 hF => ?_
  walk_at "wp"
  have e14 := e13.trans e4
  refine ⟨b, C, dx', _, _, rfl, e14 _ _ hn1, T.cl, T.nD, rfl, ?_⟩
  walk_at "wp"
  refine r_dictF2 (e14.plT hn2) (hn3.ei e14.ei) hh.apart fun sd H5 hsd e5 hS => ?_
  walk_at "wp"
  refine al (by walk_at "sz") fun r H6 hr e6 h6 => ?_
  walk_at "wp"
  have e16 := (e14.trans e5).trans e6
  have hF6 := (hF.ex e5).ex e6
  have hS6 := hS.ex e6
  have hN6 := e6 _ _ (e5 _ _ (e4 _ _ hN))
  refine ⟨q, rfl, ⟨_, stL hN6⟩, fr_W walk_list (fun i σ H7 => Ex H5 H7 ∧ ∃ (x3 x7 x8 : Option V) (acc : List V), σ = [some (.ref a), some (.ref b), some (.ref q), x3, some (.ref fd), some (.ref sd), some (.ref r), x7, x8, none, none] ∧ H7 r = some (.lst acc) ∧ InD H7 r acc (((sideN ds es).take i).map fun x => (x, side (dl n ds x) (dl m es x))))
    ⟨e6, _, _, _, [], rfl, h6, InD.nil _ _⟩ (fun i σ H7 hi h => stL (h.1 _ _ (e5 _ _ (e4 _ _ hN)))) (fun i x σ H7 H8 hi h y => ?_) (fun σ H7 h => ?_)⟩
  · obtain ⟨e7, x3, x7, x8, acc, rfl, hr7, hI⟩ := h
    obtain ⟨rfl, hx⟩ := y
    rw [List.getElem?_map, Option.map_eq_some_iff] at hx
    obtain ⟨z, hz, rfl⟩ := hx
    have eH7 := (e14.trans e5).trans e7
    have hF7 := (hF.ex e5).ex e7
    have hS7 := hS.ex e7
    walk_at "wp"
    refine ⟨fd, rfl, isD_of hF7, ?_⟩
    walk_at "wp"
    refine ⟨a, C, dx, _, _, rfl, eH7 _ _ hm1, T.cl, T.nS, rfl, ?_⟩
    refine ⟨_, rfl, r_rgT (n := n) (by omega) fun q1 H9 hq1 e9 h9 => ?_⟩
    obtain ⟨o, ho, lp, hlp, hlp2⟩ := dget2_of (x := z) hg.apart (hF7.ex e9) h9
    refine ⟨o, ho, ?_⟩
    rw [hlp]
    walk_at "wp"
    refine ⟨sd, rfl, isD_of (hS7.ex e9), ?_⟩
    walk_at "wp"
    have eH9 := eH7.trans e9
    refine ⟨b, C, dx', _, _, rfl, eH9 _ _ hn1, T.cl, T.nS, rfl, ?_⟩
    refine ⟨_, rfl, r_rgT (n := m) (by omega) fun q2 HA hq2 eA hA => ?_⟩
    obtain ⟨o2, ho2, rp, hrp, hrp2⟩ := dget2_of (x := z) hh.apart ((hS7.ex e9).ex eA) hA
    refine ⟨o2, ho2, ?_⟩
    rw [hrp]
    walk_at "wp"
    have e7A := e9.trans eA
    have hlpA := eA _ _ hlp2
    refine ty_list (stL (e7A _ _ hr7)) ?_
    walk_at "wp"
    refine e_lc2T ?_
    walk_at "wp"
    have pl := dl_pm hg.perm z
    have pr := dl_pm hh.perm z
    have hsl : (side (dl n ds z) (dl m es z)).length = n * m := by rw [side_len, pl.len, pr.len]
    refine ⟨lp, rfl, ⟨_, stT hlpA⟩, lc2_V (encI (side (dl n ds z) (dl m es z))) (stT hlpA) (stT hrp2) (by rw [encI_len, encI_len, encI_len, hsl, pl.len, pr.len]) (by rw [encI_len, hsl]; omega) (fun _ => rfl) (fun _ _ => rfl) (fun x H2 R h => ⟨_, rfl, h⟩) (fun u v x' z' y' H2 h1 h2 h3 hE R hR => ?_) fun D2 HB hD2 eB hB => ?_⟩
    · obtain ⟨hu, rfl⟩ := encI_at h1
      obtain ⟨hv, rfl⟩ := encI_at h2
      obtain ⟨_, rfl⟩ := encI_at h3
      walk_at "wp"
      refine ⟨b, C, dx', _, _, rfl, hE _ _ (eA _ _ (eH9 _ _ hn1)), T.cl, T.nS, rfl, ?_⟩
      refine r_mulR (by omega) (by omega) ?_
      walk_at "wp"
      rw [encI_len, ap_side hu hv, pr.len] at hR
      have : (((ap (dl n ds z) u : Nat) : Int) * (m : Int) + ((ap (dl m es z) v : Nat) : Int)) = ((ap (dl n ds z) u * m + ap (dl m es z) v : Nat) : Int) := by simp
      rw [this]
      exact hR
    · walk_at "wp"
      refine al (by walk_at "sz") fun t1 HC ht1 eC hC => ?_
      walk_at "wp"
      have e7C := (e7A.trans eB).trans eC
      have hrC := e7C _ _ hr7
      have htk : (sideN ds es).take (i + 1) = (sideN ds es).take i ++ [z] := by rw [List.take_succ, hz]; rfl
      refine r_app hrC (smallL (by rw [hI.1, List.length_map, List.length_take]; omega)) fun HD mD hD => ?_
      refine ⟨(e7.trans e7C).mu mD hr, _, _, _, _, rfl, hD, ?_⟩
      rw [htk, List.map_append]
      have ne1 : t1 ≠ r := fun e0 => by
        rw [e0, eB _ _ (e7A _ _ hr7)] at ht1
        cases ht1
      have ne2 : D2 ≠ r := fun e0 => by
        rw [e0, e7A _ _ hr7] at hD2
        cases hD2
      exact ((hI.keep fun b o _ h => e7C b o h).snoc hC (eC _ _ hB) ne1 ne2).keep mD.rest
  · obtain ⟨e7, x3, x7, x8, acc, rfl, hr7, hI⟩ := h
    rw [List.length_map, List.take_length] at hI
    walk_at "wp"
    refine e_make ?_
    walk_at "wp"
    exact r_make hr7 hI.ins (hg.side hh hnm h8) fun p H8 e8 mac => k p H8 (((e14.trans e5).trans e7).trans e8) mac

end
end Eo
namespace Eo
open PySem PyProof.Rows L2 L2.DX
/-! words of the walk: wp goes on where nothing is open; hl looks an object up; ex: what stood stands -/
local macro_rules | `(tactic| walk_at "hl") => `(tactic| first | assumption | exact PlT.sq (by assumption) | (refine stT ?_; walk_at "hl") | (refine stL ?_; walk_at "hl") | (refine Ex.at (by assumption) ?_; walk_at "hl") | (refine Mu.tup (by assumption) ?_; walk_at "hl") | (refine Ex.sqT (by assumption) ?_; walk_at "hl") | (refine Ex.sqL (by assumption) ?_; walk_at "hl") | (refine Ex.plT (by assumption) ?_; walk_at "hl") | (refine Mu.plT (by assumption) ?_; walk_at "hl"))
local macro_rules | `(tactic| walk_at "ex") => `(tactic| first | assumption | exact Ex.refl _ | (refine Ex.trans ?_ (by assumption); walk_at "ex") | (refine Ex.mu ?_ (by assumption) (by first | assumption | walk_at "fr"); walk_at "ex"))
local macro_rules | `(tactic| walk_at "fr") => `(tactic| first | assumption | (refine Ex.free (by assumption) ?_; walk_at "fr"))
local macro_rules | `(tactic| walk_at "rf") => `(tactic| with_unfolding_all rfl)
local macro_rules | `(tactic| walk_at "wp") => `(tactic| repeat (with_reducible first
  | refine q_seq ?_ | refine q_asg ?_ | refine q_ret ?_ | refine q_drop ?_ | refine q_if ?_ | refine q_next ?_ | refine q_par ?_ | refine q_par3 ?_ | refine q_retN ?_ | refine q_cont ?_ | refine q_brk ?_
  | refine e_var (by with_unfolding_all rfl) ?_ | refine e_c ?_ | refine e_op ?_ | refine e_cons ?_ | refine e_nil ?_ | refine e_test ?_ | refine e_B ?_ | refine e_yes ?_ | refine e_cb ?_ | refine e_call ?_ | refine e_then ?_ | refine e_tup ?_ | refine e_lst ?_
  | refine x_bl ?_ | refine i_T ?_ | refine i_F ?_ | refine x_two ?_ | refine x_three ?_
  | refine r_I0 ?_ | refine r_add ?_ | refine r_ip ?_ | refine g_nm ?_ | refine r_eqI ?_ | refine r_neI ?_ | refine r_eq (by with_unfolding_all rfl) ?_ | refine r_ne (by with_unfolding_all rfl) ?_
  | refine e_not ?_ | refine e_and ?_ | refine e_or ?_ | refine e_andV ?_ | refine e_orV ?_ | refine e_notV ?_ | refine e_ifx ?_ | refine e_idxF ?_ | refine e_idxI ?_ | refine e_sl ?_ | refine e_part ?_ | refine e_nopart ?_ | refine f_revA ?_ | refine e_lenSet ?_ | refine l_dcT ?_ | refine e_sadd ?_ | refine q_asgS ?_ | refine q_augS ?_ | refine e_tupRg ?_ | refine e_lstRg ?_ | refine e_rg1 ?_ | refine e_rg2 ?_ | refine e_dget ?_ | refine e_din ?_ | refine e_dnotin ?_ | refine e_dget2 ?_ | refine q_dput ?_ | refine e_un ?_ | refine e_chain ?_ | refine e_bm ?_ | refine e_bm0 ?_ | refine e_fld ?_ | refine q_asgT ?_
  | refine l_any ?_ | refine l_tup ?_ | refine l_list ?_ | refine l_rng1 ?_ | refine l_rng2 ?_ | refine l_str ?_ | refine l_enumL ?_ | refine l_enumT ?_ | refine l_zip ?_ | refine l_zipM ?_
  | refine f_tup ?_ | refine f_list ?_ | refine f_rng1 ?_ | refine f_enumL ?_ | refine f_enumT ?_))
local macro_rules | `(tactic| walk_at "sz") => `(tactic| first | decide | (refine small ?_; simp; done) | (refine small ?_; simp; omega) | (refine smallL ?_; simp; done) | (refine smallL ?_; simp; omega) | (simp; done) | (simp; omega))
section
variable {P : Program} {w : World} {K : PySem.W.Frag} {mg : Str → Option Value} {base : Heap} {C : Addr} {A : Nat → Addr} {FD : Nat → FuncData}
/-! the draws: the deal is a list of a list of cells and a number; both lists change -/
structure DealAt (H : Hp) (l c : Addr) : Prop where
  ex : ∃ (cs : List Nat) (x : Nat), H l = some (.lst [.ref c, .int (x : Nat)]) ∧ H c = some (.lst (encI cs)) ∧ cs.length ≤ 100
  ne : l ≠ c
/-- all stays but the deal -/
structure Xd (l c : Addr) (H H' : Hp) : Prop where
  rest : ∀ b o, b ≠ l → b ≠ c → H b = some o → H' b = some o
  deal : DealAt H l c
theorem Xd.refl {l c : Addr} {H : Hp} (d : DealAt H l c) : Xd l c H H := ⟨fun _ _ _ _ h => h, d⟩
theorem Xd.trans {l c : Addr} {H H1 H2 : Hp} (a : Xd l c H H1) (b : Xd l c H1 H2) : Xd l c H H2 := ⟨fun x o h1 h2 h => b.rest x o h1 h2 (a.rest x o h1 h2 h), a.deal⟩
theorem Xd.of {l c : Addr} {H H1 : Hp} (d : DealAt H l c) (e : Ex H H1) : Xd l c H H1 := ⟨fun b o _ _ h => e b o h, d⟩
theorem DealAt.ex' {l c : Addr} {H H1 : Hp} (d : DealAt H l c) (e : Ex H H1) : DealAt H1 l c := let ⟨cs, x, h1, h2, h3⟩ := d.ex; ⟨⟨cs, x, e _ _ h1, e _ _ h2, h3⟩, d.ne⟩
theorem DealAt.lstl {l c : Addr} {H : Hp} (d : DealAt H l c) : ∃ xs, H l = some (.lst xs) := let ⟨_, _, h, _⟩ := d.ex; ⟨_, h⟩
theorem DealAt.lstc {l c : Addr} {H : Hp} (d : DealAt H l c) : ∃ xs, H c = some (.lst xs) := let ⟨_, _, _, h, _⟩ := d.ex; ⟨_, h⟩
theorem Xd.other {l c b : Addr} {H H1 : Hp} {o : HO} (x : Xd l c H H1) (h : H b = some o) (hn : ∀ xs, o ≠ .lst xs) : H1 b = some o := by
  obtain ⟨xs, h1⟩ := x.deal.lstl
  obtain ⟨ys, h2⟩ := x.deal.lstc
  exact x.rest b o (ne_obj h h1 (hn xs)) (ne_obj h h2 (hn ys)) h
theorem Xd.tup {l c b : Addr} {H H1 : Hp} {xs : List V} (x : Xd l c H H1) (h : H b = some (.tup xs)) : H1 b = some (.tup xs) := x.other h fun _ e => nomatch e
theorem Xd.plT {l c b : Addr} {H H1 : Hp} {xs : List V} (x : Xd l c H H1) (h : PlT H b xs) : PlT H1 b xs := let ⟨o, h1, h2⟩ := h; ⟨o, x.other h1 (fun _ e => nomatch e), h2⟩
theorem Xd.ei {l c : Addr} {H H1 : Hp} (x : Xd l c H H1) : EI H H1 := fun b o h hi => x.other h fun xs e => by subst e; cases hi
theorem Xd.mac {C l c m : Addr} {H H1 : Hp} {n : Nat} {ds : Ds} (x : Xd l c H H1) (h : Mac C H m n ds) : Mac C H1 m n ds := by
  obtain ⟨dx, d, nm, vs, h1, h2, h3, h4⟩ := h.ex
  exact ⟨dx, d, nm, vs, x.other h1 (fun _ e => nomatch e), x.plT h2, h3.ei x.ei, x.plT h4⟩
/-- a list that is not the deal's -/
theorem Xd.lst {l c b : Addr} {H H1 : Hp} {o : HO} (x : Xd l c H H1) (h : H b = some o) (h1 : b ≠ l) (h2 : b ≠ c) : H1 b = some o := x.rest b o h1 h2 h
theorem DealAt.new {l c p : Addr} {H : Hp} (d : DealAt H l c) (hp : H p = none) : p ≠ l ∧ p ≠ c := by
  obtain ⟨xs, h1⟩ := d.lstl
  obtain ⟨ys, h2⟩ := d.lstc
  exact ⟨fun e => (by rw [e, h1] at hp; cases hp), fun e => (by rw [e, h2] at hp; cases hp)⟩
theorem Xd.free {l c p : Addr} {H H1 : Hp} (x : Xd l c H H1) (d : DealAt H1 l c) (h : H1 p = none) : H p = none := by
  cases q : H p with
  | none => rfl
  | some o =>
    have := d.new h
    rw [x.rest p o this.1 this.2 q] at h
    cases h
theorem Xd.mu {l c p : Addr} {H H1 H2 : Hp} (x : Xd l c H H1) (m : Mu p H1 H2) (hp : H p = none) : Xd l c H H2 := ⟨fun b o h1 h2 h => m.rest b o (ne_of_none h hp) (x.rest b o h1 h2 h), x.deal⟩
theorem Xd.muD {l c p : Addr} {H H1 : Hp} (d : DealAt H l c) (m : Mu p H H1) (hp : p = l ∨ p = c) : Xd l c H H1 := ⟨fun b o h1 h2 h => m.rest b o (by rcases hp with e | e <;> subst e <;> assumption) h, d⟩
theorem r_pop {a : Addr} {xs : List V} {y : V} {H : Hp} {Q : VK} (h : H a = some (.lst xs)) (hy : xs[xs.length - 1]? = some y) (k : ∀ H1, Mu a H H1 → H1 a = some (.lst xs.dropLast) → Q y H1) : rPop (.ref a) [] H Q := ⟨a, xs, y, rfl, rfl, h, hy, k _ (Mu.of h rfl) upd_same⟩
theorem encI_drop (f : List Nat) : (encI f).dropLast = encI f.dropLast := by unfold encI; rw [List.map_dropLast]
theorem encI_lastI {f : List Nat} (h : f ≠ []) : (encI f)[(encI f).length - 1]? = some (.int (ap f (f.length - 1) : Nat)) := by
  have := List.length_pos_iff.mpr h
  rw [encI_len]
  exact encI_get (by omega)
theorem atI_last {f : List Nat} (h : f ≠ []) : atI (encI f) (-1) = some (.int (ap f (f.length - 1) : Nat)) := by
  have hl := List.length_pos_iff.mpr h
  unfold atI ixN
  rw [encI_len, if_neg (by omega), if_pos (by omega)]
  show (encI f)[(-1 + (f.length : Int)).toNat]? = _
  rw [show (-1 + (f.length : Int)).toNat = f.length - 1 by omega]
  exact encI_get (by omega)
theorem w_E {tt : TT} {t : TS} {nx bk ct : L2.St → Hp → Prop} {rt : VK} {σ : L2.St} {H : Hp} (W : Nat → L2.St → Hp → Prop) (F : L2.St → Hp → Prop) (m0 : Nat) (h0 : W m0 σ H) (fin : ∀ σ H, F σ H → nx σ H)
    (hs : (∀ σ H, F σ H → nx σ H) → ∀ m σ H, W m σ H → tt σ H fun b H1 => if b = true then ∃ N : L2.St → Hp → Prop, (∀ σ' H', N σ' H' → ∃ m', m' < m ∧ W m' σ' H') ∧ t ⟨N, rt, nx, N⟩ σ H1 else nx σ H1) : tWhile tt t ⟨nx, rt, bk, ct⟩ σ H := w_W W m0 h0 (hs fin)
theorem e_neg {H : Hp} {Q : VK} {i : Int} (k : Q (.int (-i)) H) : rU (fun i => V.int (-i)) (.int i) H Q := ⟨i, rfl, k⟩
def sp_L_any : Sp := fun vs H Q _ => ∃ (l c : Addr) (b : Nat), vs = [.ref l, .int (b : Nat)] ∧ DealAt H l c ∧ 0 < b ∧ b < 1000000 ∧ ∀ (r : Nat) H', r < b → Xd l c H H' → DealAt H' l c → Q (.int (r : Nat)) H'
theorem ok_L_any (T : Tx K mg C A FD) : (FnOk P w K mg base CX0 1 (A 43) (FD 43) ["_law_deal_here", "_law_bound"] sp_L_any) := by
  refine T.d_L_any.F.ok sc_L_any (fun vs H Q E h => by obtain ⟨l, c, b, rfl, hd, hb, hb2, k⟩ := h; rfl) (fun cdv A0 outer s H vs Q E hr h => ?_)
  obtain ⟨l, c, b, rfl, hd, hb, hb2, k⟩ := h
  have hu := hu_of hr
  have hu64 := hr.units
  have hu2 : _ + 65 < cLine := (fun {A : Around} {k} (hr : Room k A) => (by have := hr.un; omega : A.units + 65 < cLine)) hr
  refine ⟨_, (pss_cons (ps_while PassesOwn.never (PW.pt (pw_and (pt_cmpR (kop_neD K hu64) (pe_ix (kix_list K) (pv 0) pe_int (fun _ _ => rfl)) (pe_lst pa_nil) (nomark _)) (pw_and1 (pt_cmpR op_eq (pe_ix (kix_list K) (pe_ix (kix_list K) (pv 0) pe_int (fun _ _ => rfl)) (pe_un un_neg pe_int) (fun _ _ => rfl)) pe_int (nomark _))))) (pss_one (ps_expr (pe_bm0 PySem.F.plainAttrs_list PySem.F.slot_list_pop PySem.F.type_list_pop mt_pop (pe_ix (kix_list K) (pv 0) pe_int (fun _ _ => rfl))))))
    (pss_cons (ps_if (pt_cmpR (kop_neD K hu64) (pe_ix (kix_list K) (pv 0) pe_int (fun _ _ => rfl)) (pe_lst pa_nil) (nomark _)) (pss_cons (ps_set (i := 2) sc_L_any.nd rfl (.inl rfl) (pe_callTy kcall_int (by rfl) T.z_int (by decide +kernel) (pa_cons (pe_bm0 PySem.F.plainAttrs_list PySem.F.slot_list_pop PySem.F.type_list_pop mt_pop (pe_ix (kix_list K) (pv 0) pe_int (fun _ _ => rfl))) pa_nil)))
      (pss_cons (ps_expr (kpe_bm K PySem.F.plainAttrs_list PySem.F.slot_list_append PySem.F.type_list_append mt_append (pe_ix (kix_list K) (pv 0) pe_int (fun _ _ => rfl)) (pa_cons (pe_op op_fdiv (pv 2) (pv 1)) pa_nil)))
      (pss_one (ps_ret (pe_op op_mod (pv 2) (pv 1)))))) pss_nil)
    (pss_cons (ps_asg (pe_op op_mod (pe_callTy kcall_int (by rfl) T.z_int (by decide +kernel) (pa_cons (pe_op op_add (pe_op op_mul (pe_ix (kix_list K) (pv 0) pe_int (fun _ _ => rfl)) pe_int) pe_int) pa_nil)) pe_int) (pg_sub (pv 0) pe_int set_list))
    (pss_one (ps_ret (pe_op op_mod (pe_callTy kcall_int (by rfl) T.z_int (by decide +kernel) (pa_cons (pe_op op_fdiv (pe_ix (kix_list K) (pv 0) pe_int (fun _ _ => rfl)) pe_int) pa_nil)) (pv 1))))))), ?_⟩
  clear hu hu64 hu2
  walk_at "wp"
  obtain ⟨cs0, mix0, g1, g2, g3⟩ := hd.ex
  refine w_E (fun m σ H1 => Xd l c H H1 ∧ ∃ (x : Option V) (cs : List Nat) (mix : Nat), σ = [some (.ref l), some (.int (b : Nat)), x] ∧ H1 l = some (.lst [.ref c, .int (mix : Nat)]) ∧ H1 c = some (.lst (encI cs)) ∧ cs.length ≤ 100 ∧ m = cs.length)
    (fun σ H1 => Xd l c H H1 ∧ ∃ (x : Option V) (cs : List Nat) (mix : Nat), σ = [some (.ref l), some (.int (b : Nat)), x] ∧ H1 l = some (.lst [.ref c, .int (mix : Nat)]) ∧ H1 c = some (.lst (encI cs)) ∧ cs.length ≤ 100)
    cs0.length ⟨Xd.refl hd, _, _, mix0, rfl, g1, g2, g3, rfl⟩ (fun σ H1 h => ?_) (fun fin m σ H1 h => ?_)
  · obtain ⟨x1, x0, cs, mix, rfl, h1, h2, h3⟩ := h
    have d1 : DealAt H1 l c := ⟨⟨cs, mix, h1, h2, h3⟩, hd.ne⟩
    walk_at "wp"
    refine r_ixL (n := 0) (stL h1) rfl ?_
    walk_at "wp"
    refine al (by walk_at "sz") fun nl H2 hnl e2 h2n => ?_
    refine r_neL (g := []) (stL (e2 _ _ h2)) (stL h2n) ?_
    walk_at "wp"
    have l2 := e2 _ _ h1
    have c2 := e2 _ _ h2
    have d2 := d1.ex' e2
    have x2 := x1.trans (Xd.of d1 e2)
    refine i_n (fun hne => ?_) (fun he => ?_)
    · walk_at "wp"
      refine r_ixL (n := 0) (stL l2) rfl ?_
      refine ty_list (stL c2) ?_
      refine r_pop c2 (encI_lastI hne) fun H3 m3 h3' => ?_
      walk_at "wp"
      refine ⟨_, rfl, ?_⟩
      walk_at "wp"
      rw [encI_drop] at h3'
      have hlc := d1.ne
      have l3 := m3.rest l _ hlc l2
      refine r_ixL (n := 0) (stL l3) rfl ?_
      refine ty_list (stL h3') ?_
      walk_at "wp"
      refine r_div (by omega) (by omega) ?_
      walk_at "wp"
      refine r_app h3' (smallL (by rw [encI_len, List.length_dropLast]; omega)) fun H4 m4 h4 => ?_
      walk_at "wp"
      refine r_mod (by omega) ?_
      have hr : (((ap cs (cs.length - 1) : Nat) : Int) % (b : Int)) = ((ap cs (cs.length - 1) % b : Nat) : Int) := by simp
      have hq : (((ap cs (cs.length - 1) : Nat) : Int) / (b : Int)) = ((ap cs (cs.length - 1) / b : Nat) : Int) := by simp
      rw [hr]
      rw [hq, encI_snoc] at h4
      have hl0 := List.length_pos_iff.mpr hne
      have d3 : DealAt H3 l c := ⟨⟨_, mix, l3, h3', by rw [List.length_dropLast]; omega⟩, hd.ne⟩
      exact k _ H4 (Nat.mod_lt _ hb) ((x2.trans (Xd.muD d2 m3 (.inr rfl))).trans (Xd.muD d3 m4 (.inr rfl))) ⟨⟨_, mix, m4.rest l _ hlc l3, h4, by rw [List.length_append, List.length_dropLast, List.length_singleton]; omega⟩, hd.ne⟩
    · walk_at "wp"
      refine r_ixL (n := 1) (stL l2) rfl ?_
      walk_at "wp"
      refine r_mulR (by decide) (by decide) ?_
      walk_at "wp"
      refine ⟨_, rfl, ?_⟩
      walk_at "wp"
      refine r_mod (by decide) ?_
      walk_at "wp"
      have hm : ((mix : Int) * 48017 + 89) % 2147483629 = (((mix * 48017 + 89) % 2147483629 : Nat) : Int) := by simp
      rw [hm]
      refine r_setL (j := 1) l2 (show 1 < 2 by decide) fun H3 m3 h3' => ?_
      walk_at "wp"
      have hlc := d1.ne
      have c3 := m3.rest c _ (Ne.symm hlc) c2
      refine r_ixL (n := 1) (stL h3') rfl ?_
      walk_at "wp"
      refine r_div (by decide) (by decide) ?_
      walk_at "wp"
      refine ⟨_, rfl, ?_⟩
      walk_at "wp"
      refine r_mod (by omega) ?_
      have hr : ∀ x : Nat, ((x : Int) / 64) % (b : Int) = ((x / 64 % b : Nat) : Int) := fun x => by simp
      rw [hr]
      exact k _ H3 (Nat.mod_lt _ hb) (x2.trans (Xd.muD d2 m3 (.inl rfl))) ⟨⟨cs, _, h3', c3, h3⟩, hd.ne⟩
  · obtain ⟨x1, x0, cs, mix, rfl, h1, h2, h3, rfl⟩ := h
    have d1 : DealAt H1 l c := ⟨⟨cs, mix, h1, h2, h3⟩, hd.ne⟩
    walk_at "wp"
    refine r_ixL (n := 0) (stL h1) rfl ?_
    walk_at "wp"
    refine al (by walk_at "sz") fun nl H2 hnl e2 h2n => ?_
    refine r_neL (g := []) (stL (e2 _ _ h2)) (stL h2n) ?_
    walk_at "wp"
    have l2 := e2 _ _ h1
    have c2 := e2 _ _ h2
    have d2 := d1.ex' e2
    have x2 := x1.trans (Xd.of d1 e2)
    have out := fin _ H2 ⟨x2, x0, cs, mix, rfl, l2, c2, h3⟩
    refine i_n (fun hne => ?_) (fun he => out)
    walk_at "wp"
    refine r_ixL (n := 0) (stL l2) rfl ?_
    walk_at "wp"
    refine e_neg ?_
    refine r_ixL (n := -1) (stL c2) (atI_last hne) ?_
    walk_at "wp"
    refine i_d (fun hz => w_N ?_) (fun hz => out)
    walk_at "wp"
    refine r_ixL (n := 0) (stL l2) rfl ?_
    refine ty_list (stL c2) ?_
    refine r_pop c2 (encI_lastI hne) fun H3 m3 h3' => ?_
    walk_at "wp"
    rw [encI_drop] at h3'
    have hl0 := List.length_pos_iff.mpr hne
    exact ⟨cs.dropLast.length, by rw [List.length_dropLast]; omega, x2.trans (Xd.muD d2 m3 (.inr rfl)), _, _, mix, rfl, m3.rest l _ d1.ne l2, h3', by rw [List.length_dropLast]; omega, rfl⟩

end
end Eo
namespace Eo
open PySem PyProof.Rows L2 L2.DX
/-! words of the walk: wp goes on where nothing is open; hl looks an object up; ex: what stood stands -/
local macro_rules | `(tactic| walk_at "hl") => `(tactic| first | assumption | exact PlT.sq (by assumption) | (refine stT ?_; walk_at "hl") | (refine stL ?_; walk_at "hl") | (refine Ex.at (by assumption) ?_; walk_at "hl") | (refine Mu.tup (by assumption) ?_; walk_at "hl") | (refine Ex.sqT (by assumption) ?_; walk_at "hl") | (refine Ex.sqL (by assumption) ?_; walk_at "hl") | (refine Ex.plT (by assumption) ?_; walk_at "hl") | (refine Mu.plT (by assumption) ?_; walk_at "hl"))
local macro_rules | `(tactic| walk_at "ex") => `(tactic| first | assumption | exact Ex.refl _ | (refine Ex.trans ?_ (by assumption); walk_at "ex") | (refine Ex.mu ?_ (by assumption) (by first | assumption | walk_at "fr"); walk_at "ex"))
local macro_rules | `(tactic| walk_at "fr") => `(tactic| first | assumption | (refine Ex.free (by assumption) ?_; walk_at "fr"))
local macro_rules | `(tactic| walk_at "rf") => `(tactic| with_unfolding_all rfl)
local macro_rules | `(tactic| walk_at "wp") => `(tactic| repeat (with_reducible first
  | refine q_seq ?_ | refine q_asg ?_ | refine q_ret ?_ | refine q_drop ?_ | refine q_if ?_ | refine q_next ?_ | refine q_par ?_ | refine q_par3 ?_ | refine q_retN ?_ | refine q_cont ?_ | refine q_brk ?_
  | refine e_var (by with_unfolding_all rfl) ?_ | refine e_c ?_ | refine e_op ?_ | refine e_cons ?_ | refine e_nil ?_ | refine e_test ?_ | refine e_B ?_ | refine e_yes ?_ | refine e_cb ?_ | refine e_call ?_ | refine e_then ?_ | refine e_tup ?_ | refine e_lst ?_
  | refine x_bl ?_ | refine i_T ?_ | refine i_F ?_ | refine x_two ?_ | refine x_three ?_
  | refine r_I0 ?_ | refine r_add ?_ | refine r_ip ?_ | refine g_nm ?_ | refine r_eqI ?_ | refine r_neI ?_ | refine r_eq (by with_unfolding_all rfl) ?_ | refine r_ne (by with_unfolding_all rfl) ?_
  | refine e_not ?_ | refine e_and ?_ | refine e_or ?_ | refine e_andV ?_ | refine e_orV ?_ | refine e_notV ?_ | refine e_ifx ?_ | refine e_idxF ?_ | refine e_idxI ?_ | refine e_sl ?_ | refine e_part ?_ | refine e_nopart ?_ | refine f_revA ?_ | refine e_lenSet ?_ | refine l_dcT ?_ | refine e_sadd ?_ | refine q_asgS ?_ | refine q_augS ?_ | refine e_tupRg ?_ | refine e_lstRg ?_ | refine e_rg1 ?_ | refine e_rg2 ?_ | refine e_dget ?_ | refine e_din ?_ | refine e_dnotin ?_ | refine e_dget2 ?_ | refine q_dput ?_ | refine e_un ?_ | refine e_chain ?_ | refine e_bm ?_ | refine e_bm0 ?_ | refine e_fld ?_ | refine q_asgT ?_
  | refine l_any ?_ | refine l_tup ?_ | refine l_list ?_ | refine l_rng1 ?_ | refine l_rng2 ?_ | refine l_str ?_ | refine l_enumL ?_ | refine l_enumT ?_ | refine l_zip ?_ | refine l_zipM ?_
  | refine f_tup ?_ | refine f_list ?_ | refine f_rng1 ?_ | refine f_enumL ?_ | refine f_enumT ?_))
local macro_rules | `(tactic| walk_at "sz") => `(tactic| first | decide | (refine small ?_; simp; done) | (refine small ?_; simp; omega) | (refine smallL ?_; simp; done) | (refine smallL ?_; simp; omega) | (simp; done) | (simp; omega))
section
variable {P : Program} {w : World} {K : PySem.W.Frag} {mg : Str → Option Value} {base : Heap} {C : Addr} {A : Nat → Addr} {FD : Nat → FuncData}
def sp_L_ofL : Sp := fun vs H Q _ => ∃ (l c s : Addr) (xs : List V), vs = [.ref l, .ref s] ∧ DealAt H l c ∧ H s = some (.lst xs) ∧ s ≠ l ∧ s ≠ c ∧ 0 < xs.length ∧ xs.length < 1000 ∧ ∀ (r : Nat) v H', xs[r]? = some v → Xd l c H H' → DealAt H' l c → Q v H'
theorem ok_L_ofL (T : Tx K mg C A FD) : (FnOk P w K mg base CX0 2 (A 44) (FD 44) ["_law_deal_here", "_law_some"] sp_L_ofL) := by
  refine T.d_L_of.F.ok sc_L_of (fun vs H Q E h => by obtain ⟨l, c, s, xs, rfl, hd, hs, n1, n2, h0, hl, k⟩ := h; rfl) (fun cdv A0 outer s H vs Q E hr h => ?_)
  obtain ⟨l, c, s, xs, rfl, hd, hs, n1, n2, h0, hl, k⟩ := h
  have hu := hu_of hr
  have hu64 := hr.units
  have hu2 : _ + 65 < cLine := (fun {A : Around} {k} (hr : Room k A) => (by have := hr.un; omega : A.units + 65 < cLine)) hr
  refine ⟨_, (pss_one (ps_ret (pe_ix (kix_any K) (pv 1) (pe_call (ok_L_any T) (hr.mono (by decide)) (by rfl) T.d_L_any.g T.d_L_any.F.kp T.d_L_any.b .nil pass0 (pa_cons (pv 0) (pa_cons (pe_callB (kcall_lenA K) (by rfl) T.z_len (by decide +kernel) (pa_cons (pv 1) pa_nil)) pa_nil))) (fun _ _ => rfl)))), ?_⟩
  clear hu hu64 hu2
  walk_at "wp"
  refine .inl ⟨s, xs, rfl, .inl (stL hs), ?_⟩
  walk_at "wp"
  refine ⟨l, c, xs.length, rfl, hd, h0, by omega, fun r H1 hr x1 d1 => ?_⟩
  have hv := List.getElem?_eq_getElem hr
  exact .inl (r_ixL (stL (x1.lst hs n1 n2)) (atI_ok hv) (k r _ H1 hv x1 d1))
def sp_L_ofS : Sp := fun vs H Q _ => ∃ (l c : Addr) (z : Str), vs = [.ref l, .str z] ∧ DealAt H l c ∧ 0 < z.cps.size ∧ z.cps.size < 1000 ∧ ∀ (x : Nat) H', x ∈ z.cps.toList → Xd l c H H' → DealAt H' l c → Q (.str ⟨#[x]⟩) H'
theorem ok_L_ofS (T : Tx K mg C A FD) : (FnOk P w K mg base CX0 2 (A 44) (FD 44) ["_law_deal_here", "_law_some"] sp_L_ofS) := by
  refine T.d_L_of.F.ok sc_L_of (fun vs H Q E h => by obtain ⟨l, c, z, rfl, hd, h0, hl, k⟩ := h; rfl) (fun cdv A0 outer s H vs Q E hr h => ?_)
  obtain ⟨l, c, z, rfl, hd, h0, hl, k⟩ := h
  have hu := hu_of hr
  have hu64 := hr.units
  have hu2 : _ + 65 < cLine := (fun {A : Around} {k} (hr : Room k A) => (by have := hr.un; omega : A.units + 65 < cLine)) hr
  refine ⟨_, (pss_one (ps_ret (pe_ix (kix_any K) (pv 1) (pe_call (ok_L_any T) (hr.mono (by decide)) (by rfl) T.d_L_any.g T.d_L_any.F.kp T.d_L_any.b .nil pass0 (pa_cons (pv 0) (pa_cons (pe_callB (kcall_lenA K) (by rfl) T.z_len (by decide +kernel) (pa_cons (pv 1) pa_nil)) pa_nil))) (fun _ _ => rfl)))), ?_⟩
  clear hu hu64 hu2
  walk_at "wp"
  have hz : z.length = z.cps.size := rfl
  refine .inr ⟨z, rfl, small (by omega), ?_⟩
  walk_at "wp"
  refine ⟨l, c, z.length, rfl, hd, by omega, by omega, fun r H1 hr x1 d1 => ?_⟩
  have hlt : r < z.cps.toList.length := by
    rw [Array.length_toList]
    exact hr
  refine .inr (.inr ⟨z, r, z.cps.toList[r], rfl, rfl, small (by omega), ?_, k _ H1 (List.getElem_mem hlt) x1 d1⟩)
  exact atI_nat (List.getElem?_eq_getElem hlt)
theorem map_eraseIdx {α β : Type} (g : α → β) : ∀ (l : List α) (i : Nat), (l.map g).eraseIdx i = (l.eraseIdx i).map g
  | [], i => by simp
  | x :: l, 0 => by simp
  | x :: l, i + 1 => by simp [map_eraseIdx g l i]
theorem perm_erase {α : Type} : ∀ {l : List α} {i : Nat} (h : i < l.length), (l[i] :: l.eraseIdx i).Perm l
  | x :: l, 0, h => by simp
  | x :: l, i + 1, h => by
    have h' : i < l.length := by simpa using h
    have ih := perm_erase h'
    show (l[i] :: x :: l.eraseIdx i).Perm (x :: l)
    exact (List.Perm.swap x l[i] _).trans (ih.cons x)
def sp_L_turn : Sp := fun vs H Q _ => ∃ (l c : Addr) (n : Nat), vs = [.ref l, .int (n : Nat)] ∧ DealAt H l c ∧ n < 100 ∧ ∀ (f : List Nat) p H', H p = none → p ≠ l → p ≠ c → Xd l c H H' → DealAt H' l c → H' p = some (.lst (encI f)) → Pm n f → Q (.ref p) H'
theorem ok_L_turn (T : Tx K mg C A FD) : (FnOk P w K mg base CX0 2 (A 45) (FD 45) ["_law_deal_here", "_law_many"] sp_L_turn) := by
  refine T.d_L_turn.F.ok sc_L_turn (fun vs H Q E h => by obtain ⟨l, c, n, rfl, hd, hn, k⟩ := h; rfl) (fun cdv A0 outer s H vs Q E hr h => ?_)
  obtain ⟨l, c, n, rfl, hd, hn, k⟩ := h
  have hu := hu_of hr
  have hu64 := hr.units
  have hu2 : _ + 65 < cLine := (fun {A : Around} {k} (hr : Room k A) => (by have := hr.un; omega : A.units + 65 < cLine)) hr
  refine ⟨_, (pss_cons (ps_par (i := 2) (j := 3) rfl sc_L_turn.nd rfl rfl (by decide) rfl rfl (pa_cons (pe_listRg rfl (by rfl) T.z_list (prg_1 (by rfl) T.z_range (pv 1))) (pa_cons (pe_lst pa_nil) pa_nil)) rfl)
    (pss_cons (ps_for PassesOwn.never rfl (pi_range1 (by rfl) T.z_range (pa_cons (pv 1) pa_nil)) (pg_name (i := 4) sc_L_turn.nd rfl (by first | exact .inl rfl | exact .inr rfl)) (pss_one (ps_expr (kpe_bm K PySem.F.plainAttrs_list PySem.F.slot_list_append PySem.F.type_list_append mt_append (pv 3) (pa_cons (kpe_bm K PySem.F.plainAttrs_list PySem.F.slot_list_pop PySem.F.type_list_pop mt_popAt (pv 2) (pa_cons (pe_call (ok_L_any T) (hr.mono (by decide)) (by rfl) T.d_L_any.g T.d_L_any.F.kp T.d_L_any.b .nil pass0 (pa_cons (pv 0) (pa_cons (pe_callB (kcall_len K) (by rfl) T.z_len (by decide +kernel) (pa_cons (pv 2) pa_nil)) pa_nil))) pa_nil)) pa_nil)))))
    (pss_one (ps_ret (pv 3))))), ?_⟩
  clear hu hu64 hu2
  walk_at "wp"
  refine ⟨_, rfl, r_rgL (n := n) (by omega) fun a H1 ha e1 h1 => ?_⟩
  walk_at "wp"
  refine al (by walk_at "sz") fun b H2 hb e2 h2 => ?_
  walk_at "wp"
  have hab : a ≠ b := ne_of_none h1 hb
  have hal := (hd.new ha)
  have hbl := (hd.ex' e1).new hb
  refine ⟨(n : Nat), rfl, by omega, by omega, fr_W walk_range (fun i σ H3 => Xd l c H H3 ∧ DealAt H3 l c ∧ ∃ (x : Option V) (us fs : List Nat), σ = [some (.ref l), some (.int (n : Nat)), some (.ref a), some (.ref b), x] ∧ H3 a = some (.lst (encI us)) ∧ H3 b = some (.lst (encI fs)) ∧ us.length + i = n ∧ fs.length = i ∧ (us ++ fs).Nodup ∧ ∀ x ∈ us ++ fs, x < n)
    ⟨Xd.of hd (e1.trans e2), hd.ex' (e1.trans e2), _, idn n, [], rfl, e2 _ _ h1, h2, by rw [idn_len]; rfl, rfl, by rw [List.append_nil]; exact (Pm.idn n).nd, by rw [List.append_nil]; exact (Pm.idn n).lt⟩ (fun _ _ _ _ _ => trivial) (fun i x σ H3 H4 hi h y => ?_) (fun σ H3 h => ?_)⟩
  · obtain ⟨x3, d3, x0, us, fs, rfl, hA, hB, hl1, hl2, hnd, hlt⟩ := h
    obtain ⟨rfl, rfl⟩ := y_rng y
    have hi2 : i < n := by simpa using hi
    walk_at "wp"
    refine ty_list (stL hB) ?_
    walk_at "wp"
    refine ty_list (stL hA) ?_
    walk_at "wp"
    refine r_lenL (stL hA) ?_
    rw [encI_len]
    walk_at "wp"
    refine ⟨l, c, us.length, rfl, d3, by omega, by omega, fun r H5 hr x5 d5 => ?_⟩
    walk_at "wp"
    have hA5 := x5.lst hA hal.1 hal.2
    have hB5 := x5.lst hB hbl.1 hbl.2
    refine ⟨a, encI us, r, r, .int (ap us r : Nat), rfl, rfl, hA5, by omega, by omega, ?_, encI_get hr, ?_⟩
    · exact (ixN_seq (ixN_nat (by rw [encI_len]; exact hr))).1
    have hm : Mu a H5 (upd H5 a (.lst ((encI us).eraseIdx r))) := Mu.of hA5 rfl
    have hA6 : upd H5 a (.lst ((encI us).eraseIdx r)) a = some (.lst (encI (us.eraseIdx r))) := by
      rw [upd_same]
      unfold encI
      rw [map_eraseIdx]
    generalize upd H5 a (.lst ((encI us).eraseIdx r)) = H6 at hm hA6
    walk_at "wp"
    have hB6 := hm.rest b _ (Ne.symm hab) hB5
    refine r_app hB6 (smallL (by rw [encI_len]; omega)) fun H7 m7 h7 => ?_
    have hg : us[r]? = some (ap us r) := ap_get hr
    have hperm : (us.eraseIdx r ++ (fs ++ [ap us r])).Perm (us ++ fs) := by
      have h1 : us.Perm (ap us r :: us.eraseIdx r) := by
        have := perm_erase hr
        rw [List.getElem?_eq_getElem hr] at hg
        rw [Option.some.inj hg] at this
        exact this.symm
      have h2 : (us.eraseIdx r ++ (fs ++ [ap us r])).Perm (ap us r :: (us.eraseIdx r ++ fs)) := by
        rw [← List.append_assoc]
        exact List.perm_append_comm.trans (List.Perm.refl _)
      exact h2.trans (h1.symm.append_right fs)
    have haH : H a = none := ha
    have hbH : H b = none := e1.free hb
    have d6 : DealAt H6 l c := by
      obtain ⟨cs, mx, q1, q2, q3⟩ := d5.ex
      exact ⟨⟨cs, mx, hm.rest l _ (Ne.symm hal.1) q1, hm.rest c _ (Ne.symm hal.2) q2, q3⟩, d5.ne⟩
    have d7 : DealAt H7 l c := by
      obtain ⟨cs, mx, q1, q2, q3⟩ := d6.ex
      exact ⟨⟨cs, mx, m7.rest l _ (Ne.symm hbl.1) q1, m7.rest c _ (Ne.symm hbl.2) q2, q3⟩, d5.ne⟩
    refine ⟨((x3.trans x5).mu hm haH).mu m7 hbH, d7, _, us.eraseIdx r, fs ++ [ap us r], rfl, m7.rest a _ hab hA6, by rw [h7, encI_snoc], by rw [List.length_eraseIdx_of_lt hr]; omega, by rw [List.length_append, List.length_singleton]; omega, hperm.nodup_iff.mpr hnd, fun x hx => hlt x (hperm.mem_iff.mp hx)⟩
  · obtain ⟨x3, d3, x0, us, fs, rfl, hA, hB, hl1, hl2, hnd, hlt⟩ := h
    walk_at "wp"
    have hl3 : us.length + n = n := by simpa using hl1
    have hu0 : us = [] := List.length_eq_zero_iff.mp (by omega)
    subst hu0
    exact k fs b H3 (e1.free hb) hbl.1 hbl.2 x3 d3 hB ⟨by simpa using hl2, fun x hx => hlt x (by simpa using hx), by simpa using hnd⟩
def sp_L_then : Sp := fun vs H Q _ => ∃ (a b : Addr) (f g : List Nat), vs = [.ref a, .ref b] ∧ LT H a (encI f) ∧ LT H b (encI g) ∧ (∀ x ∈ f, x < g.length) ∧ f.length ≤ 1000 ∧ ∀ p H', H p = none → Ex H H' → H' p = some (.lst (encI (cmp f g))) → Q (.ref p) H'
theorem ok_L_then (T : Tx K mg C A FD) : (FnOk P w K mg base CX0 1 (A 47) (FD 47) ["_law_one", "_law_other"] sp_L_then) := by
  refine T.d_L_then.F.ok sc_L_then (fun vs H Q E h => by obtain ⟨a, b, f, g, rfl, ha, hb, hlt, hl, k⟩ := h; rfl) (fun cdv A0 outer s H vs Q E hr h => ?_)
  obtain ⟨a, b, f, g, rfl, ha, hb, hlt, hl, k⟩ := h
  have hu := hu_of hr
  have hu64 := hr.units
  have hu2 : _ + 65 < cLine := (fun {A : Around} {k} (hr : Room k A) => (by have := hr.un; omega : A.units + 65 < cLine)) hr
  refine ⟨_, (pss_one (ps_ret (pe_lc rfl sc_L_then.nd (kpi_any K (pv 0)) (blkOk_by (own := [("_law_state", 2)]) (N := N_L_then) (sc := defScope s_L_then) (by decide +kernel)) (fun _ _ _ _ _ => (pg_name (i := 2) sc_L_then.nd rfl (by first | exact .inl rfl | exact .inr rfl))) (fun _ _ _ _ _ => pts_nil) (fun _ _ _ _ _ => (pe_ix (kix_any K) (pv 1) (pv 2) (fun _ _ => rfl)))))), ?_⟩
  clear hu hu64 hu2
  walk_at "wp"
  refine ⟨a, rfl, r_any ha fun J wJ => lc_V (encI (cmp f g)) wJ (by rw [encI_len]; omega) (by rw [encI_len, encI_len, cmp_len]) (fun i x y H1 H2 hy e hx R hR => ?_) fun D H1 hD e hDl => k D H1 hD e hDl⟩
  obtain ⟨rfl, hx⟩ := hx
  obtain ⟨hi, rfl⟩ := encI_at hx
  obtain ⟨_, rfl⟩ := encI_at hy
  refine ⟨rfl, ?_⟩
  walk_at "wp"
  have hat := hlt _ (ap_mem hi)
  rw [ap_cmp hi] at hR
  rcases hb.ex e with h | h
  · exact .inl (r_ixL (stL h) (atI_ok (encI_get hat)) (hR _ (Ex.refl _)))
  · exact .inr (.inl (r_ixT (stT h) (atI_ok (encI_get hat)) (hR _ (Ex.refl _))))

end
end Eo
namespace Eo
open PySem PyProof.Rows L2 L2.DX
/-! words of the walk: wp goes on where nothing is open; hl looks an object up; ex: what stood stands -/
local macro_rules | `(tactic| walk_at "hl") => `(tactic| first | assumption | exact PlT.sq (by assumption) | (refine stT ?_; walk_at "hl") | (refine stL ?_; walk_at "hl") | (refine Ex.at (by assumption) ?_; walk_at "hl") | (refine Mu.tup (by assumption) ?_; walk_at "hl") | (refine Ex.sqT (by assumption) ?_; walk_at "hl") | (refine Ex.sqL (by assumption) ?_; walk_at "hl") | (refine Ex.plT (by assumption) ?_; walk_at "hl") | (refine Mu.plT (by assumption) ?_; walk_at "hl"))
local macro_rules | `(tactic| walk_at "ex") => `(tactic| first | assumption | exact Ex.refl _ | (refine Ex.trans ?_ (by assumption); walk_at "ex") | (refine Ex.mu ?_ (by assumption) (by first | assumption | walk_at "fr"); walk_at "ex"))
local macro_rules | `(tactic| walk_at "fr") => `(tactic| first | assumption | (refine Ex.free (by assumption) ?_; walk_at "fr"))
local macro_rules | `(tactic| walk_at "rf") => `(tactic| with_unfolding_all rfl)
local macro_rules | `(tactic| walk_at "wp") => `(tactic| repeat (with_reducible first
  | refine q_seq ?_ | refine q_asg ?_ | refine q_ret ?_ | refine q_drop ?_ | refine q_if ?_ | refine q_next ?_ | refine q_par ?_ | refine q_par3 ?_ | refine q_retN ?_ | refine q_cont ?_ | refine q_brk ?_
  | refine e_var (by with_unfolding_all rfl) ?_ | refine e_c ?_ | refine e_op ?_ | refine e_cons ?_ | refine e_nil ?_ | refine e_test ?_ | refine e_B ?_ | refine e_yes ?_ | refine e_cb ?_ | refine e_call ?_ | refine e_then ?_ | refine e_tup ?_ | refine e_lst ?_
  | refine x_bl ?_ | refine i_T ?_ | refine i_F ?_ | refine x_two ?_ | refine x_three ?_
  | refine r_I0 ?_ | refine r_add ?_ | refine r_ip ?_ | refine g_nm ?_ | refine r_eqI ?_ | refine r_neI ?_ | refine r_eq (by with_unfolding_all rfl) ?_ | refine r_ne (by with_unfolding_all rfl) ?_
  | refine e_not ?_ | refine e_and ?_ | refine e_or ?_ | refine e_andV ?_ | refine e_orV ?_ | refine e_notV ?_ | refine e_ifx ?_ | refine e_idxF ?_ | refine e_idxI ?_ | refine e_sl ?_ | refine e_part ?_ | refine e_nopart ?_ | refine f_revA ?_ | refine e_lenSet ?_ | refine l_dcT ?_ | refine e_sadd ?_ | refine q_asgS ?_ | refine q_augS ?_ | refine e_tupRg ?_ | refine e_lstRg ?_ | refine e_rg1 ?_ | refine e_rg2 ?_ | refine e_dget ?_ | refine e_din ?_ | refine e_dnotin ?_ | refine e_dget2 ?_ | refine q_dput ?_ | refine e_un ?_ | refine e_chain ?_ | refine e_bm ?_ | refine e_bm0 ?_ | refine e_fld ?_ | refine q_asgT ?_
  | refine l_any ?_ | refine l_tup ?_ | refine l_list ?_ | refine l_rng1 ?_ | refine l_rng2 ?_ | refine l_str ?_ | refine l_enumL ?_ | refine l_enumT ?_ | refine l_zip ?_ | refine l_zipM ?_
  | refine f_tup ?_ | refine f_list ?_ | refine f_rng1 ?_ | refine f_enumL ?_ | refine f_enumT ?_))
local macro_rules | `(tactic| walk_at "sz") => `(tactic| first | decide | (refine small ?_; simp; done) | (refine small ?_; simp; omega) | (refine smallL ?_; simp; done) | (refine smallL ?_; simp; omega) | (simp; done) | (simp; omega))
section
variable {P : Program} {w : World} {K : PySem.W.Frag} {mg : Str → Option Value} {base : Heap} {C : Addr} {A : Nat → Addr} {FD : Nat → FuncData}
def sp_L_common : Sp := fun vs H Q _ => ∃ i j : Nat, vs = [.int i, .int j] ∧ j < 400 ∧ Q (.int (Nat.gcd i j : Nat)) H
theorem ok_L_common (T : Tx K mg C A FD) : (FnOk P w K mg base CX0 1 (A 46) (FD 46) ["_law_one", "_law_other"] sp_L_common) := by
  refine T.d_L_common.F.ok sc_L_common (fun vs H Q E h => by obtain ⟨i, j, rfl, hj, k⟩ := h; rfl) (fun cdv A0 outer s H vs Q E hr h => ?_)
  obtain ⟨i, j, rfl, hj, k⟩ := h
  have hu := hu_of hr
  have hu64 := hr.units
  have hu2 : _ + 65 < cLine := (fun {A : Around} {k} (hr : Room k A) => (by have := hr.un; omega : A.units + 65 < cLine)) hr
  refine ⟨_, (pss_cons (ps_for PassesOwn.never rfl (pi_range1 (by rfl) T.z_range (pa_cons pe_int pa_nil)) (pg_name (i := 2) sc_L_common.nd rfl (by first | exact .inl rfl | exact .inr rfl)) (pss_cons (ps_if (pt_cmpR op_eq (pv 1) pe_int (nomark _)) (pss_one (ps_ret (pv 0))) pss_nil)
      (pss_one (ps_par (i := 0) (j := 1) rfl sc_L_common.nd rfl rfl (by decide) rfl rfl (pa_cons (pv 1) (pa_cons (pe_op op_mod (pe_callTy kcall_int (by rfl) T.z_int (by decide +kernel) (pa_cons (pv 0) pa_nil)) (pv 1)) pa_nil)) rfl))))
    (pss_one (ps_ret pe_int))), ?_⟩
  clear hu hu64 hu2
  walk_at "wp"
  refine ⟨400, rfl, by decide, by decide, fr_W walk_range (fun u σ H1 => H1 = H ∧ ∃ (a b : Nat) (x : Option V), σ = [some (.int a), some (.int b), x] ∧ Nat.gcd a b = Nat.gcd i j ∧ b + u ≤ 399) ⟨rfl, i, j, _, rfl, rfl, by omega⟩ (fun _ _ _ _ _ => trivial) (fun u x σ H1 H2 hu h y => ?_) (fun σ H1 h => ?_)⟩
  · obtain ⟨rfl, a, b, x0, rfl, hg, hb⟩ := h
    obtain ⟨rfl, rfl⟩ := y_rng y
    walk_at "wp"
    refine i_d (fun h0 => ?_) (fun h0 => ?_)
    · walk_at "wp"
      have : b = 0 := by omega
      subst this
      rw [Nat.gcd_zero_right] at hg
      rw [hg]
      exact k
    · walk_at "wp"
      refine ⟨_, rfl, ?_⟩
      walk_at "wp"
      refine r_mod (by omega) ?_
      walk_at "wp"
      have hm := Nat.mod_lt a (show b > 0 by omega)
      exact ⟨rfl, b, a % b, _, rfl, by rw [← hg, Nat.gcd_comm a b, Nat.gcd_rec b a, Nat.gcd_comm], by omega⟩
  · obtain ⟨rfl, a, b, x0, rfl, hg, hb⟩ := h
    have hb2 : b + 400 ≤ 399 := hb
    omega
def sp_L_raised : Sp := fun vs H Q _ => ∃ (a : Addr) (n t : Nat) (f : List Nat), vs = [.ref a, .int (t : Nat)] ∧ H a = some (.lst (encI f)) ∧ Pm n f ∧ n ≤ 100 ∧ t < 2 ^ 64 ∧ ∀ p H', Ex H H' → H' p = some (.lst (encI (pw n f t))) → Q (.ref p) H'
theorem ok_L_raised (T : Tx K mg C A FD) : (FnOk P w K mg base CX0 2 (A 58) (FD 58) ["_law_effect_here", "_law_times"] sp_L_raised) := by
  refine T.d_L_raised.F.ok sc_L_raised (fun vs H Q E h => by obtain ⟨a, n, t, f, rfl, ha, hf, hn, ht, k⟩ := h; rfl) (fun cdv A0 outer s H vs Q E hr h => ?_)
  obtain ⟨a, n, t, f, rfl, ha, hf, hn, ht, k⟩ := h
  have hu := hu_of hr
  have hu64 := hr.units
  have hu2 : _ + 65 < cLine := (fun {A : Around} {k} (hr : Room k A) => (by have := hr.un; omega : A.units + 65 < cLine)) hr
  refine ⟨_, (pss_cons (ps_par (i := 2) (j := 3) rfl sc_L_raised.nd rfl rfl (by decide) rfl rfl (pa_cons (pe_listRg rfl (by rfl) T.z_list (prg_1 (by rfl) T.z_range (pe_callB (kcall_len K) (by rfl) T.z_len (by decide +kernel) (pa_cons (pv 0) pa_nil)))) (pa_cons (pe_callTy (kcall_list K) (by rfl) T.z_list (by decide +kernel) (pa_cons (pv 0) pa_nil)) pa_nil)) rfl)
    (pss_cons (ps_for PassesOwn.never rfl (pi_range1 (by rfl) T.z_range (pa_cons pe_int pa_nil)) (pg_name (i := 4) sc_L_raised.nd rfl (by first | exact .inl rfl | exact .inr rfl)) (pss_cons (ps_if (pt_cmpR op_eq (pe_op op_mod (pe_callTy kcall_int (by rfl) T.z_int (by decide +kernel) (pa_cons (pv 1) pa_nil)) pe_int) pe_int (nomark _)) (pss_one (ps_set (i := 2) sc_L_raised.nd rfl (.inl rfl) (pe_call (ok_L_then T) (hr.mono (by decide)) (by rfl) T.d_L_then.g T.d_L_then.F.kp T.d_L_then.b .nil pass0 (pa_cons (pv 2) (pa_cons (pv 3) pa_nil))))) pss_nil)
      (pss_cons (ps_par (i := 3) (j := 1) rfl sc_L_raised.nd rfl rfl (by decide) rfl rfl (pa_cons (pe_call (ok_L_then T) (hr.mono (by decide)) (by rfl) T.d_L_then.g T.d_L_then.F.kp T.d_L_then.b .nil pass0 (pa_cons (pv 3) (pa_cons (pv 3) pa_nil))) (pa_cons (pe_op op_fdiv (pv 1) pe_int) pa_nil)) rfl)
      (pss_one (ps_if (pt_cmpR op_eq (pv 1) pe_int (nomark _)) (pss_one (ps_ret (pv 2))) pss_nil)))))
    (pss_one (ps_ret (pv 2))))), ?_⟩
  clear hu hu64 hu2
  walk_at "wp"
  refine r_lenL (stL ha) ?_
  rw [encI_len, hf.len]
  refine ⟨_, rfl, r_rgL (n := n) (by omega) fun p0 H1 hp0 e1 h1 => ?_⟩
  walk_at "wp"
  refine ⟨a, _, rfl, .inl (stL (e1 _ _ ha)), fun q0 hq0 => ?_⟩
  have e2 : Ex H1 (upd H1 q0 (.lst (encI f))) := Ex.new hq0
  have hq : upd H1 q0 (.lst (encI f)) q0 = some (.lst (encI f)) := upd_same
  generalize upd H1 q0 (.lst (encI f)) = H2 at e2 hq
  walk_at "wp"
  have step : ∀ {g h : List Nat} {m : Nat}, Pm n g → Pm n h → cmp g (pw n h m) = pw n f t → (m % 2 = 1 → cmp (cmp g h) (pw n (cmp h h) (m / 2)) = pw n f t) ∧ (¬ m % 2 = 1 → cmp g (pw n (cmp h h) (m / 2)) = pw n f t) := fun {g h m} pg ph eq => by
    have h2 : pw n h 2 = cmp h h := by rw [show 2 = 1 + 1 from rfl, pw_add ph.ef, pw_one ph.ef]
    refine ⟨fun h1 => ?_, fun h1 => ?_⟩
    · rw [← eq, cmp_assoc pg.ef ph.ef]
      have e1 : m = 1 + 2 * (m / 2) := by omega
      conv => rhs; rw [e1]
      rw [pw_add ph.ef, pw_one ph.ef, pw_mul ph.ef, h2]
    · rw [← eq]
      have e1 : m = 2 * (m / 2) := by omega
      conv => rhs; rw [e1]
      rw [pw_mul ph.ef, h2]
  refine ⟨64, rfl, by decide, by decide, fr_W walk_range (fun u σ H3 => Ex H H3 ∧ ∃ (m : Nat) (p q : Addr) (g h : List Nat) (x : Option V), σ = [some (.ref a), some (.int (m : Nat)), some (.ref p), some (.ref q), x] ∧ H3 p = some (.lst (encI g)) ∧ H3 q = some (.lst (encI h)) ∧ Pm n g ∧ Pm n h ∧ cmp g (pw n h m) = pw n f t ∧ m < 2 ^ (64 - u))
    ⟨e1.trans e2, t, p0, q0, idn n, f, _, rfl, e2 _ _ h1, hq, Pm.idn n, hf, id_cmp (hf.pw t).ef, ht⟩ (fun _ _ _ _ _ => trivial) (fun u x σ H3 H4 hu h y => ?_) (fun σ H3 h => ?_)⟩
  · obtain ⟨e3, m, p, q, g, h, x0, rfl, hp, hq, pg, ph, eq, hm⟩ := h
    obtain ⟨rfl, rfl⟩ := y_rng y
    have hu2 : u < 64 := hu
    have hst := step pg ph eq
    have hm2 : m / 2 < 2 ^ (64 - (u + 1)) := by
      have : 2 ^ (64 - u) = 2 * 2 ^ (64 - (u + 1)) := by rw [← Nat.pow_succ']; congr 1; omega
      omega
    have hdiv : ((m : Int) / 2) = ((m / 2 : Nat) : Int) := by simp
    walk_at "wp"
    refine ⟨_, rfl, ?_⟩
    walk_at "wp"
    refine r_mod (by omega) ?_
    walk_at "wp"
    refine i_d (fun h1 => ?_) (fun h1 => ?_)
    · walk_at "wp"
      refine ⟨p, q, g, h, rfl, .inl hp, .inl hq, fun x hx => by rw [ph.len]; exact pg.lt x hx, by rw [pg.len]; omega, fun p2 H5 _ e5 h5 => ?_⟩
      walk_at "wp"
      refine ⟨q, q, h, h, rfl, .inl (e5 _ _ hq), .inl (e5 _ _ hq), fun x hx => by rw [ph.len]; exact ph.lt x hx, by rw [ph.len]; omega, fun q2 H6 _ e6 h6 => ?_⟩
      walk_at "wp"
      refine r_div (by decide) (by decide) ?_
      walk_at "wp"
      rw [hdiv]
      have eq2 := hst.1 (by omega)
      refine i_d (fun h0 => ?_) (fun h0 => ?_)
      · walk_at "wp"
        have h00 : m / 2 = 0 := by omega
        rw [h00] at eq2
        have e0 : cmp (cmp g h) (pw n (cmp h h) 0) = cmp g h := cmp_id (pg.cmp ph).ef
        rw [← eq2, e0] at k
        exact k p2 H6 ((e3.trans e5).trans e6) (e6 _ _ h5)
      · walk_at "wp"
        exact ⟨(e3.trans e5).trans e6, m / 2, p2, q2, _, _, _, rfl, e6 _ _ h5, h6, pg.cmp ph, ph.cmp ph, eq2, hm2⟩
    · walk_at "wp"
      refine ⟨q, q, h, h, rfl, .inl hq, .inl hq, fun x hx => by rw [ph.len]; exact ph.lt x hx, by rw [ph.len]; omega, fun q2 H6 _ e6 h6 => ?_⟩
      walk_at "wp"
      refine r_div (by decide) (by decide) ?_
      walk_at "wp"
      rw [hdiv]
      have eq2 := hst.2 (by omega)
      refine i_d (fun h0 => ?_) (fun h0 => ?_)
      · walk_at "wp"
        have h00 : m / 2 = 0 := by omega
        rw [h00] at eq2
        have e0 : cmp g (pw n (cmp h h) 0) = g := cmp_id pg.ef
        rw [← eq2, e0] at k
        exact k p H6 (e3.trans e6) (e6 _ _ hp)
      · walk_at "wp"
        exact ⟨e3.trans e6, m / 2, p, q2, _, _, _, rfl, e6 _ _ hp, h6, pg, ph.cmp ph, eq2, hm2⟩
  · obtain ⟨e3, m, p, q, g, h, x0, rfl, hp, hq, pg, ph, eq, hm⟩ := h
    walk_at "wp"
    have hm3 : m < 2 ^ (64 - 64) := hm
    have hm0 : m = 0 := by omega
    subst hm0
    have e0 : cmp g (pw n h 0) = g := cmp_id pg.ef
    rw [← eq, e0] at k
    exact k p H3 e3 hp

end
end Eo
namespace Eo
open PySem PyProof.Rows L2 L2.DX
/-! words of the walk: wp goes on where nothing is open; hl looks an object up; ex: what stood stands -/
local macro_rules | `(tactic| walk_at "hl") => `(tactic| first | assumption | exact PlT.sq (by assumption) | (refine stT ?_; walk_at "hl") | (refine stL ?_; walk_at "hl") | (refine Ex.at (by assumption) ?_; walk_at "hl") | (refine Mu.tup (by assumption) ?_; walk_at "hl") | (refine Ex.sqT (by assumption) ?_; walk_at "hl") | (refine Ex.sqL (by assumption) ?_; walk_at "hl") | (refine Ex.plT (by assumption) ?_; walk_at "hl") | (refine Mu.plT (by assumption) ?_; walk_at "hl"))
local macro_rules | `(tactic| walk_at "ex") => `(tactic| first | assumption | exact Ex.refl _ | (refine Ex.trans ?_ (by assumption); walk_at "ex") | (refine Ex.mu ?_ (by assumption) (by first | assumption | walk_at "fr"); walk_at "ex"))
local macro_rules | `(tactic| walk_at "fr") => `(tactic| first | assumption | (refine Ex.free (by assumption) ?_; walk_at "fr"))
local macro_rules | `(tactic| walk_at "rf") => `(tactic| with_unfolding_all rfl)
local macro_rules | `(tactic| walk_at "wp") => `(tactic| repeat (with_reducible first
  | refine q_seq ?_ | refine q_asg ?_ | refine q_ret ?_ | refine q_drop ?_ | refine q_if ?_ | refine q_next ?_ | refine q_par ?_ | refine q_par3 ?_ | refine q_retN ?_ | refine q_cont ?_ | refine q_brk ?_
  | refine e_var (by with_unfolding_all rfl) ?_ | refine e_c ?_ | refine e_op ?_ | refine e_cons ?_ | refine e_nil ?_ | refine e_test ?_ | refine e_B ?_ | refine e_yes ?_ | refine e_cb ?_ | refine e_call ?_ | refine e_then ?_ | refine e_tup ?_ | refine e_lst ?_
  | refine x_bl ?_ | refine i_T ?_ | refine i_F ?_ | refine x_two ?_ | refine x_three ?_
  | refine r_I0 ?_ | refine r_add ?_ | refine r_ip ?_ | refine g_nm ?_ | refine r_eqI ?_ | refine r_neI ?_ | refine r_eq (by with_unfolding_all rfl) ?_ | refine r_ne (by with_unfolding_all rfl) ?_
  | refine e_not ?_ | refine e_and ?_ | refine e_or ?_ | refine e_andV ?_ | refine e_orV ?_ | refine e_notV ?_ | refine e_ifx ?_ | refine e_idxF ?_ | refine e_idxI ?_ | refine e_sl ?_ | refine e_part ?_ | refine e_nopart ?_ | refine f_revA ?_ | refine e_lenSet ?_ | refine l_dcT ?_ | refine e_sadd ?_ | refine q_asgS ?_ | refine q_augS ?_ | refine e_tupRg ?_ | refine e_lstRg ?_ | refine e_rg1 ?_ | refine e_rg2 ?_ | refine e_dget ?_ | refine e_din ?_ | refine e_dnotin ?_ | refine e_dget2 ?_ | refine q_dput ?_ | refine e_un ?_ | refine e_chain ?_ | refine e_bm ?_ | refine e_bm0 ?_ | refine e_fld ?_ | refine q_asgT ?_
  | refine l_any ?_ | refine l_tup ?_ | refine l_list ?_ | refine l_rng1 ?_ | refine l_rng2 ?_ | refine l_str ?_ | refine l_enumL ?_ | refine l_enumT ?_ | refine l_zip ?_ | refine l_zipM ?_
  | refine f_tup ?_ | refine f_list ?_ | refine f_rng1 ?_ | refine f_enumL ?_ | refine f_enumT ?_))
local macro_rules | `(tactic| walk_at "sz") => `(tactic| first | decide | (refine small ?_; simp; done) | (refine small ?_; simp; omega) | (refine smallL ?_; simp; done) | (refine smallL ?_; simp; omega) | (simp; done) | (simp; omega))
section
variable {P : Program} {w : World} {K : PySem.W.Frag} {mg : Str → Option Value} {base : Heap} {C : Addr} {A : Nat → Addr} {FD : Nat → FuncData}
def sp_L_placed : Sp := fun vs H Q _ => ∃ (a b : Addr) (n : Nat) (P f : List Nat), vs = [.ref a, .ref b] ∧ H a = some (.lst (encI P)) ∧ H b = some (.lst (encI f)) ∧ Pm n P ∧ Pm n f ∧ n ≤ 100 ∧ ∀ g p H', Pm n g → Ex H H' → H' p = some (.tup (encI g)) → Q (.ref p) H'
theorem ok_L_placed (T : Tx K mg C A FD) : (FnOk P w K mg base CX0 1 (A 56) (FD 56) ["_law_places", "_law_one"] sp_L_placed) := by
  refine T.d_L_placed.F.ok sc_L_placed (fun vs H Q E h => by obtain ⟨a, b, n, P, f, rfl, ha, hb, hP, hf, hn, k⟩ := h; rfl) (fun cdv A0 outer s H vs Q E hr h => ?_)
  obtain ⟨a, b, n, P, f, rfl, ha, hb, hP, hf, hn, k⟩ := h
  have hu := hu_of hr
  have hu64 := hr.units
  have hu2 : _ + 65 < cLine := (fun {A : Around} {k} (hr : Room k A) => (by have := hr.un; omega : A.units + 65 < cLine)) hr
  refine ⟨_, (pss_cons (ps_set (i := 2) sc_L_placed.nd rfl (.inl rfl) (pe_op op_rep (pe_lst (pa_cons pe_int pa_nil)) (pe_callB (kcall_len K) (by rfl) T.z_len (by decide +kernel) (pa_cons (pv 1) pa_nil))))
    (pss_cons (ps_for PassesOwn.never rfl (kpi_enum K (by rfl) T.z_enumerate (pa_cons (pv 1) pa_nil)) (kpg_tup K (n := 2) (by rfl) (pgs_cons (pg_name (i := 3) sc_L_placed.nd rfl (by first | exact .inl rfl | exact .inr rfl)) (pgs_cons (pg_name (i := 4) sc_L_placed.nd rfl (by first | exact .inl rfl | exact .inr rfl)) pgs_nil))) (pss_one (ps_asg (pe_ix (kix_list K) (pv 0) (pv 4) (fun _ _ => rfl)) (pg_sub (pv 2) (pe_ix (kix_list K) (pv 0) (pv 3) (fun _ _ => rfl)) set_list))))
    (pss_one (ps_ret (kpe_tupleOf K (by rfl) T.z_tuple (pv 2)))))), ?_⟩
  clear hu hu64 hu2
  walk_at "wp"
  refine al (by walk_at "sz") fun l H1 hl e h1 => ?_
  walk_at "wp"
  refine r_lenL (stL (e _ _ hb)) ?_
  rw [encI_len, hf.len]
  refine r_rep1 (c := n) h1 (by omega) fun p H2 hp e2 h2 => ?_
  walk_at "wp"
  have e12 := e.trans e2
  refine ⟨b, _, rfl, stL (e12 _ _ hb), fr_W walk_enum (fun i σ H1 => Ex H H1 ∧ ∃ g x y, σ = [some (.ref a), some (.ref b), some (.ref p), x, y] ∧ H1 p = some (.lst (encI g)) ∧ g.length = n ∧ ∀ j, j < i → ap g (ap P j) = ap P (ap f j))
    ⟨e12, List.replicate n 0, _, _, rfl, by rw [h2]; unfold encI; rw [List.map_replicate]; rfl, List.length_replicate, fun j hj => by omega⟩ (fun i σ H1 hi h => stL (h.1 _ _ hb)) (fun i x σ H1 H2 hi h y => ?_) (fun σ H1 h => ?_)⟩
  · obtain ⟨e1, g, x0, y0, rfl, hg, gl, hj⟩ := h
    obtain ⟨t, u, v, rfl, hu, hv, ht, e3⟩ := yp_get y
    obtain ⟨hi2, rfl⟩ := encI_at hv
    cases hu
    rw [hf.len] at hi2
    refine g_two (stT ht) ?_
    walk_at "wp"
    have eH := e1.trans e3
    refine r_ixEL (stL (eH _ _ ha)) (by rw [hP.len]; exact hf.ap_lt hi2) ?_
    walk_at "wp"
    refine r_ixEL (stL (eH _ _ ha)) (by rw [hP.len]; exact hi2) ?_
    refine r_setL (e3 _ _ hg) (by rw [encI_len, gl]; exact hP.ap_lt hi2) fun H5 m5 h5 => ?_
    refine ⟨eH.mu m5 (e.free hp), g.set (ap P i) (ap P (ap f i)), _, _, rfl, by rw [h5, encI_set], by rw [List.length_set]; exact gl, fun j hj2 => ?_⟩
    unfold ap
    rw [List.getD_eq_getElem?_getD, List.getElem?_set]
    by_cases hji : j = i
    · subst hji
      rw [if_pos rfl, if_pos (by rw [gl]; exact hP.ap_lt hi2)]
      rfl
    · rw [if_neg (fun e => hji (hP.inj (by omega) hi2 e.symm))]
      rw [← List.getD_eq_getElem?_getD]
      exact hj j (by omega)
  · obtain ⟨e1, g, x0, y0, rfl, hg, gl, hj⟩ := h
    walk_at "wp"
    refine r_tupE hg fun q H3 _ e3 h3 => ?_
    rw [encI_len, hf.len] at hj
    have hlt : ∀ y, y < n → ap g y < n := fun y hy => by
      obtain ⟨x, hx, rfl⟩ := hP.surj hy
      rw [hj x hx]
      exact hP.ap_lt (hf.ap_lt hx)
    refine k g q H3 (Pm.of_inj ⟨gl, fun y hy => ?_⟩ fun x y hx hy e => ?_) (e1.trans e3) h3
    · obtain ⟨i, hi, rfl⟩ := mem_ap hy
      exact hlt i (by omega)
    · obtain ⟨x', hx', rfl⟩ := hP.surj hx
      obtain ⟨y', hy', rfl⟩ := hP.surj hy
      rw [hj x' hx', hj y' hy'] at e
      rw [hf.inj hx' hy' (hP.inj (hf.ap_lt hx') (hf.ap_lt hy') e)]
def sp_L_counts (d : Nat) : Sp := fun vs H Q _ => ∃ (a b : Addr) (r : Row Str) (N : List Str), vs = [.ref b, .ref a] ∧ Rw H a r ∧ H b = some (.lst (N.map V.str)) ∧ r.Names N ∧ N.Nodup ∧ N.length ≤ 100 ∧ r.Below (2 ^ 64) ∧ r.depth < d ∧ ∀ p H', H p = none → Ex H H' → H' p = some (.lst (encI (N.map fun x => r.cnt x))) → Q (.ref p) H'
theorem ok_L_counts (T : Tx K mg C A FD) : ∀ d : Nat, (FnOk P w K mg base CX0 d (A 60) (FD 60) ["_law_names_here", "_law_row"] (sp_L_counts d)) := by
  intro d
  induction d with
  | zero => exact (no_ok (A 60) (FD 60) ["_law_names_here", "_law_row"]).imp fun vs H Q E h => by obtain ⟨_, _, _, _, _, _, _, _, _, _, _, h, _⟩ := h; omega
  | succ d ih =>
    refine T.d_L_counts.F.ok sc_L_counts (fun vs H Q E h => by obtain ⟨a, b, r, N, rfl, ha, hb, hN, nd, hl, hB, hd, k⟩ := h; rfl) (fun cdv A0 outer s H vs Q E hr h => ?_)
    obtain ⟨a, b, r, N, rfl, ha, hb, hN, nd, hl, hB, hd, k⟩ := h
    have hu := hu_of hr
    have hu64 := hr.units
    have hu2 : _ + 65 < cLine := (fun {A : Around} {k} (hr : Room k A) => (by have := hr.un; omega : A.units + 65 < cLine)) hr
    refine ⟨_, (pss_cons (ps_set (i := 2) sc_L_counts.nd rfl (.inl rfl) (pe_op op_rep (pe_lst (pa_cons pe_int pa_nil)) (pe_callB (kcall_len K) (by rfl) T.z_len (by decide +kernel) (pa_cons (pv 0) pa_nil))))
    (pss_cons (ps_for PassesOwn.never rfl (kpi_tup K (pv 1)) (pg_name (i := 3) sc_L_counts.nd rfl (by first | exact .inl rfl | exact .inr rfl)) (pss_one (ps_if (pt_val (pe_callB (kcall_isi K) (by rfl) T.z_isinstance (by decide +kernel) (pa_cons (pv 3) (pa_cons (pe_bltn (v := .ty "str") (by rfl) T.z_str (by decide +kernel) rfl) pa_nil)))) (pss_one (ps_augS (pv 2) (kpe_bm K PySem.F.plainAttrs_list PySem.F.slot_list_index PySem.F.type_list_index (kmt_index K) (pv 0) (pa_cons (pv 3) pa_nil)) (kget_list K) pe_int ip_add set_list)) (pss_one (ps_setLc (i := 2) rfl sc_L_counts.nd rfl rfl (sw_true rfl rfl rfl (by decide +kernel)) (kpi_zip K (by rfl) T.z_zip (pa_cons (pv 2) (pa_cons (pe_call ih (hr.mono (Nat.le_refl _)) (by rfl) T.d_L_counts.g T.d_L_counts.F.kp T.d_L_counts.b .nil pass0 (pa_cons (pv 0) (pa_cons (pe_ix (kix_tup K) (pv 3) pe_int (fun _ _ => rfl)) pa_nil))) pa_nil))) (blkOk_by (own := [("_law_one", 4), ("_law_more", 5)]) (N := N_L_counts) (sc := defScope s_L_counts) (by decide +kernel)) (fun _ _ _ _ _ => (kpg_tup K (n := 2) (by rfl) (pgs_cons (pg_name (i := 4) sc_L_counts.nd rfl (by first | exact .inl rfl | exact .inr rfl)) (pgs_cons (pg_name (i := 5) sc_L_counts.nd rfl (by first | exact .inl rfl | exact .inr rfl)) pgs_nil)))) (fun _ _ _ _ _ => pts_nil) (fun _ _ _ _ _ => (pe_op op_add (pv 4) (pe_op op_mul (pe_ix (kix_tup K) (pv 3) pe_int (fun _ _ => rfl)) (pv 5)))))))))
    (pss_one (ps_ret (pv 2))))), ?_⟩
    clear hu hu64 hu2
    walk_at "wp"
    obtain ⟨ws, h1, h2⟩ := ha
    refine al (by walk_at "sz") fun l0 H1 hl0 e0 g0 => ?_
    walk_at "wp"
    refine r_lenL (stL (e0 _ _ hb)) ?_
    rw [List.length_map]
    refine r_rep1 (c := N.length) g0 (by omega) fun D H2 hD e2 hDl => ?_
    have e := e0.trans e2
    walk_at "wp"
    refine ⟨a, rfl, ⟨_, stT (e _ _ h1)⟩, fr_W walk_tup (fun i σ H1 => Ex H H1 ∧ ∃ p x, H p = none ∧ H1 p = some (.lst (encI (N.map fun z => (r.pre i).cnt z))) ∧ σ = [some (.ref b), some (.ref a), some (.ref p), x, none, none])
      ⟨e, D, _, e0.free hD, by rw [Row.pre_zero, hDl]; unfold encI; rw [List.map_map]; congr 2; exact List.ext_getElem (by simp) (fun i h1 h2 => by simp [Row.cnt]), rfl⟩ (fun i σ H1 hi h => h.1.sqT (stT h1)) (fun i x σ H1 H2 hi h y => ?_) (fun σ H1 h => ?_)⟩
    · obtain ⟨e, p, x0, hp, hp1, rfl⟩ := h
      obtain ⟨rfl, hx⟩ := y
      obtain ⟨it, hit, hpt⟩ := (h2.ei e.ei).get hx
      have hm := List.mem_of_getElem? hit
      have hn := Row.names_item hN hm
      have hb2 := Row.below_item hB hm
      have hpre := Row.pre_succ r i hit
      walk_at "wp"
      cases it with
      | inl z =>
        obtain rfl := hpt
        refine r_isi (.base (.str _)) (r := true) (by decide +kernel) ?_
        walk_at "wp"
        refine ty_list (stL (e _ _ hb)) ?_
        walk_at "wp"
        obtain ⟨j, hj, hz⟩ := List.getElem_of_mem hn.1
        refine ⟨b, _, .str z, j, .str z, rfl, rfl, stL (e _ _ hb), rfl, flat_strs N, by rw [List.getElem?_map, List.getElem?_eq_getElem hj, hz]; rfl, by simp [L2.eqV], fun m z' hm2 e2 => ?_, ?_⟩
        · rw [List.getElem?_map, Option.map_eq_some_iff] at e2
          obtain ⟨w0, hw, rfl⟩ := e2
          obtain ⟨hm3, hm4⟩ := List.getElem?_eq_some_iff.mp hw
          have hne : w0 ≠ z := fun e3 => by
            have := nd_inj nd hm3 hj (by rw [hm4, hz, e3])
            omega
          simpa [L2.eqV] using hne
        refine r_getL (stL hp1) (encI_get (by rw [List.length_map]; exact hj)) ?_
        walk_at "wp"
        refine r_setL hp1 (by rw [encI_len, List.length_map]; exact hj) fun H3 m3 h3 => ?_
        refine ⟨e.mu m3 hp, p, _, hp, ?_, rfl⟩
        rw [h3, ap_mapN hj]
        have : (V.int (((r.pre i).cnt N[j] : Nat) + 1)) = V.int (((r.pre i).cnt N[j] + 1 : Nat) : Int) := by simp
        rw [this, encI_set]
        congr 3
        rw [hpre]
        refine List.ext_getElem (by simp) fun m q1 q2 => ?_
        rw [List.getElem_set]
        simp only [List.getElem_map]
        rw [Row.cnt_app]
        simp only [Row.single, Row.cnt]
        have q3 : m < N.length := by simpa using q2
        by_cases hmj : j = m
        · subst hmj
          rw [if_pos rfl, if_pos hz.symm]
        · rw [if_neg hmj, if_neg (fun e => hmj (nd_inj nd hj q3 (by rw [hz, e])))]
          omega
      | inr pp =>
        obtain ⟨j, c⟩ := pp
        have hdj := Row.depth_item hm
        obtain ⟨q, p2, rfl, hq, hr1⟩ := hpt
        refine r_isi (ty_tup hq) (r := false) (by decide +kernel) ?_
        walk_at "wp"
        refine r_ixT (n := 0) (stT hq) rfl ?_
        walk_at "wp"
        refine ⟨p2, b, j, N, rfl, hr1, e _ _ hb, hn.1, nd, hl, hb2.2.1, by omega, fun p3 H3 hp3 e3 h3 => ?_⟩
        walk_at "wp"
        have hp1' := e3 _ _ hp1
        have L1 : (encI (N.map fun z => (r.pre i).cnt z)).length = N.length := by rw [encI_len, List.length_map]
        have L2 : (encI (N.map fun z => j.cnt z)).length = N.length := by rw [encI_len, List.length_map]
        refine ⟨p, p3, _, _, rfl, stL hp1', stL h3, lc_V (encI (N.map fun z => (r.pre (i + 1)).cnt z)) (wk_zip (n := N.length) (by rw [L1, L2, Nat.min_self]) (stL hp1') (stL h3)) (by omega) (by rw [encI_len, List.length_map]) (fun n x y H4 H5 hy e5 hx R hR => ?_) fun D H4 hD e4 hDl => ?_⟩
        · obtain ⟨t, u, v, rfl, hu, hv, ht, _⟩ := yp_get hx
          obtain ⟨hn1, rfl⟩ := encI_at hu
          obtain ⟨hn2, rfl⟩ := encI_at hv
          obtain ⟨hn3, rfl⟩ := encI_at hy
          rw [List.length_map] at hn1
          refine g_two (stT ht) ?_
          refine ⟨rfl, ?_⟩
          walk_at "wp"
          refine r_ixT (n := 1) (stT (e5 _ _ (e3 _ _ hq))) rfl ?_
          walk_at "wp"
          have hc := hb2.1
          refine r_mulL (by omega) (by omega) ?_
          walk_at "wp"
          rw [ap_mapN hn1, ap_mapN hn1]
          rw [ap_mapN hn1, hpre, Row.cnt_app] at hR
          have : (((r.pre i).cnt N[n] : Nat) : Int) + (c : Int) * ((j.cnt N[n] : Nat) : Int) = (((r.pre i).cnt N[n] + (Row.single (Sum.inr (j, c))).cnt N[n] : Nat) : Int) := by
            simp [Row.single, Row.cnt]
          rw [this]
          exact hR _ (Ex.refl _)
        · walk_at "wp"
          exact ⟨(e.trans e3).trans e4, D, _, (e.trans e3).free hD, hDl, rfl⟩
    · obtain ⟨e, p, x0, hp, hp1, rfl⟩ := h
      walk_at "wp"
      rw [h2.len, Row.pre_all] at hp1
      exact k p H1 hp e hp1

def sp_L_effect (d : Nat) : Sp := fun vs H Q _ => ∃ (a b : Addr) (n : Nat) (r : Row Str) (ds : Ds) (us : List V), vs = [.ref b, .ref a] ∧ Rw H a r ∧ H b = some (.lst us) ∧ DeedsAt H us ds ∧ Good n ds ∧ r.Names (nms ds) ∧ r.Below (2 ^ 64) ∧ r.depth < d ∧
  ∀ p H', Ex H H' → H' p = some (.lst (encI (eff n ds r.flat))) → Q (.ref p) H'
theorem r_dictP2 {K : PySem.W.Frag} {d : Addr} {H : Hp} {Q : VK} {vs : List V} {ds : Ds} (hd : SqL K H d vs) (hv : DeedsAt H vs ds) (nd : (nms ds).Nodup) (k : ∀ p H', H p = none → Ex H H' → DicAt2 H' p ds → Q (.ref p) H') : rDictP K [.ref d] H Q := by
  have hex : ∀ j, j < ds.length → ∃ u : Addr × (Key × V), vs[j]? = some (.ref u.1) ∧ SqT K H u.1 [kV u.2.1, u.2.2] ∧ ∃ x f q, ds[j]? = some (x, f) ∧ u.2 = (Sum.inr x, V.ref q) ∧ H q = some (.tup (encI f)) := fun j hj => by
    obtain ⟨p, q, h1, h2, h3⟩ := hv.2 j _ _ (List.getElem?_eq_getElem hj)
    exact ⟨(p, (Sum.inr _, .ref q)), h1, stT h2, _, _, q, List.getElem?_eq_getElem hj, rfl, h3⟩
  obtain ⟨us, hl, hu⟩ := listed ds.length hex
  have ev : vs = (us.map (·.1)).map V.ref := List.ext_getElem? fun j => by
    by_cases hj : j < ds.length
    · have e := List.getElem?_eq_getElem (l := us) (i := j) (by omega)
      rw [(hu j _ e).1, List.getElem?_map, List.getElem?_map, e]
      rfl
    · rw [List.getElem?_eq_none (by rw [hv.1]; omega), List.getElem?_eq_none (by rw [List.length_map, List.length_map]; omega)]
  have hp : Paired (fun p kv => SqT K H p [kV kv.1, kv.2]) (us.map (·.1)) (us.map (·.2)) := pairedOf (by rw [List.length_map, List.length_map]) fun j x y h1 h2 => by
    rw [List.getElem?_map, Option.map_eq_some_iff] at h1 h2
    obtain ⟨u, h1, rfl⟩ := h1
    obtain ⟨u', h2, rfl⟩ := h2
    rw [h1] at h2
    cases h2
    exact (hu j _ h1).2.1
  have ek : ((us.map (·.2)).map (·.1)) = (ds.map (·.1)).map Sum.inr := List.ext_getElem? fun j => by
    by_cases hj : j < ds.length
    · have e := List.getElem?_eq_getElem (l := us) (i := j) (by omega)
      obtain ⟨_, _, x, f, q, h1, h2, _⟩ := hu j _ e
      rw [List.getElem?_map, List.getElem?_map, e, List.getElem?_map, List.getElem?_map, h1]
      simp [h2]
    · rw [List.getElem?_eq_none (by simp; omega), List.getElem?_eq_none (by simp; omega)]
  have nd2 : ((us.map (·.2)).map (·.1)).Nodup := by rw [ek]; exact nodup_map nd fun a _ b _ e => Sum.inr.inj e
  refine ⟨d, us.map (·.1), us.map (·.2), rfl, by rw [← ev]; exact hd, hp, fun p hp0 => k p _ hp0 (Ex.new hp0) ⟨_, upd_same, fun x => ?_⟩⟩
  rw [mergeK_nodup (fun _ _ _ h => by cases h) nd2, List.nil_append]
  by_cases hx : x ∈ nms ds
  · obtain ⟨⟨x', f⟩, hm, rfl⟩ := List.mem_map.mp hx
    obtain ⟨j, hj, e⟩ := List.getElem_of_mem hm
    have e1 := List.getElem?_eq_getElem (l := us) (i := j) (by omega)
    obtain ⟨_, _, x2, f', q, h1, h2, h3⟩ := hu j _ e1
    rw [List.getElem?_eq_getElem hj, e] at h1
    cases h1
    exact .inl ⟨f, q, hm, valV_nodup nd2 (List.mem_map.mpr ⟨_, List.mem_of_getElem? e1, h2⟩), by rw [upd_ne (ne_of_none h3 hp0)]; exact h3⟩
  · refine .inr ⟨hx, valV_none ?_⟩
    rw [ek]
    intro m
    obtain ⟨y, hy, e⟩ := List.mem_map.mp m
    cases e
    exact hx hy
theorem ok_L_effect (T : Tx K mg C A FD) : ∀ d : Nat, (FnOk P w K mg base CX0 (d + 3) (A 59) (FD 59) ["_law_deeds_here", "_law_row"] (sp_L_effect d)) := by
  intro d
  induction d with
  | zero => exact ((no_ok (A 59) (FD 59) ["_law_deeds_here", "_law_row"]).mono (Nat.zero_le _)).imp fun vs H Q E h => by obtain ⟨_, _, _, _, _, _, _, _, _, _, _, _, _, h, _⟩ := h; omega
  | succ d ih =>
    refine T.d_L_effect.F.ok sc_L_effect (fun vs H Q E h => by obtain ⟨a, b, n, r, ds, us, rfl, ha, hb, hus, hg, hN, hB, hd, k⟩ := h; rfl) (fun cdv A0 outer s H vs Q E hr h => ?_)
    obtain ⟨a, b, n, r, ds, us, rfl, ha, hb, hus, hg, hN, hB, hd, k⟩ := h
    have hu := hu_of hr
    have hu64 := hr.units
    have hu2 : _ + 65 < cLine := (fun {A : Around} {k} (hr : Room k A) => (by have := hr.un; omega : A.units + 65 < cLine)) hr
    refine ⟨_, (pss_cons (ps_par (i := 2) (j := 3) rfl sc_L_effect.nd rfl rfl (by decide) rfl rfl (pa_cons (pe_callTy (kcall_dictP K rfl) (by rfl) T.z_dict (by decide +kernel) (pa_cons (pv 0) pa_nil)) (pa_cons (pe_listRg rfl (by rfl) T.z_list (prg_1 (by rfl) T.z_range (pe_callB (kcall_len K) (by rfl) T.z_len (by decide +kernel) (pa_cons (pe_ix (kix_tup K) (pe_ix (kix_list K) (pv 0) pe_int (fun _ _ => rfl)) pe_int (fun _ _ => rfl)) pa_nil)))) pa_nil)) rfl)
    (pss_cons (ps_for PassesOwn.never rfl (kpi_tup K (pv 1)) (pg_name (i := 4) sc_L_effect.nd rfl (by first | exact .inl rfl | exact .inr rfl)) (pss_one (ps_if (pt_val (pe_callB (kcall_isi K) (by rfl) T.z_isinstance (by decide +kernel) (pa_cons (pv 4) (pa_cons (pe_bltn (v := .ty "str") (by rfl) T.z_str (by decide +kernel) rfl) pa_nil)))) (pss_one (ps_set (i := 3) sc_L_effect.nd rfl (.inl rfl) (pe_call (ok_L_then T) (hr.mono (by omega)) (by rfl) T.d_L_then.g T.d_L_then.F.kp T.d_L_then.b .nil pass0 (pa_cons (pv 3) (pa_cons (pe_dget hu (pv 2) (pv 4) (fun _ _ => rfl)) pa_nil))))) (pss_one (ps_set (i := 3) sc_L_effect.nd rfl (.inl rfl) (pe_call (ok_L_then T) (hr.mono (by omega)) (by rfl) T.d_L_then.g T.d_L_then.F.kp T.d_L_then.b .nil pass0 (pa_cons (pv 3) (pa_cons (pe_call (ok_L_raised T) (hr.mono (by omega)) (by rfl) T.d_L_raised.g T.d_L_raised.F.kp T.d_L_raised.b .nil pass0 (pa_cons (pe_call ih (hr.mono (Nat.le_refl _)) (by rfl) T.d_L_effect.g T.d_L_effect.F.kp T.d_L_effect.b .nil pass0 (pa_cons (pv 0) (pa_cons (pe_ix (kix_tup K) (pv 4) pe_int (fun _ _ => rfl)) pa_nil))) (pa_cons (pe_ix (kix_tup K) (pv 4) pe_int (fun _ _ => rfl)) pa_nil))) pa_nil))))))))
    (pss_one (ps_ret (pv 3))))), ?_⟩
    clear hu hu64 hu2
    walk_at "wp"
    obtain ⟨ws, h1, h2⟩ := ha
    have few := hg.few
    refine r_dictP2 (stL hb) hus hg.apart fun kd H1 hkd e1 hkd1 => ?_
    walk_at "wp"
    obtain ⟨x0, f0, hxf⟩ : ∃ x f, ds[0]? = some (x, f) := ⟨_, _, List.getElem?_eq_getElem hg.has⟩
    obtain ⟨p0, q0, g1, g2, g3⟩ := (hus.ei e1.ei).2 0 x0 f0 hxf
    refine r_ixL (n := 0) (stL (e1 _ _ hb)) (atI_ok (n := 0) g1) ?_
    walk_at "wp"
    refine r_ixT (n := 1) (stT g2) rfl ?_
    walk_at "wp"
    refine r_lenT (stT g3) ?_
    rw [encI_len, (hg.perm _ (List.mem_of_getElem? hxf)).len]
    refine ⟨_, rfl, r_rgL (n := n) (by omega) fun D H2 hD e2 hDl => ?_⟩
    walk_at "wp"
    have e12 := e1.trans e2
    have hkd2 := hkd1.ex e2
    refine ⟨a, rfl, ⟨_, stT (e12 _ _ h1)⟩, fr_W walk_tup (fun i σ H3 => Ex H2 H3 ∧ ∃ p x, H3 p = some (.lst (encI (eff n ds (r.pre i).flat))) ∧ σ = [some (.ref b), some (.ref a), some (.ref kd), some (.ref p), x])
      ⟨Ex.refl _, D, _, by rw [Row.pre_zero]; exact hDl, rfl⟩ (fun i σ H3 hi h => h.1.sqT (stT (e12 _ _ h1))) (fun i x σ H3 H4 hi h y => ?_) (fun σ H3 h => ?_)⟩
    · obtain ⟨e3, p, x1, hp, rfl⟩ := h
      obtain ⟨rfl, hx⟩ := y
      have e := e12.trans e3
      obtain ⟨it, hit, hpt⟩ := (h2.ei e.ei).get hx
      have hm := List.mem_of_getElem? hit
      have hn2 := Row.names_item hN hm
      have hb2 := Row.below_item hB hm
      have hpre := Row.pre_succ r i hit
      have P1 := eff_pm hg.perm (r.pre i).flat
      walk_at "wp"
      cases it with
      | inl z =>
        obtain rfl := hpt
        refine r_isi (.base (.str _)) (r := true) (by decide +kernel) ?_
        walk_at "wp"
        obtain ⟨kvs, hk1, hk2⟩ := hkd2.ex e3
        rcases hk2 z with ⟨f, q, hmem, hv, hq⟩ | ⟨hno, _⟩
        · refine ⟨_, _, rfl, dget_S hk1 hv, ?_⟩
          walk_at "wp"
          have pf : Pm n f := hg.perm _ hmem
          refine ⟨p, q, _, _, rfl, .inl hp, .inr hq, fun x hx => by rw [pf.len]; exact P1.lt x hx, by rw [P1.len]; omega, fun p5 H5 _ e5 h5 => ?_⟩
          walk_at "wp"
          refine ⟨e3.trans e5, p5, _, ?_, rfl⟩
          rw [h5, hpre, eff_app hg.perm]
          simp only [Row.single]
          rw [eff_nm hg.perm, dl_in hg.apart hmem]
        · exact absurd hn2.1 hno
      | inr pp =>
        obtain ⟨j, c2⟩ := pp
        have hdj := Row.depth_item hm
        obtain ⟨q, p2, rfl, hq, hr1⟩ := hpt
        refine r_isi (ty_tup hq) (r := false) (by decide +kernel) ?_
        walk_at "wp"
        refine r_ixT (n := 0) (stT hq) rfl ?_
        walk_at "wp"
        refine ⟨p2, b, n, j, ds, us, rfl, hr1, e _ _ hb, hus.ei e.ei, hg, hn2.1, hb2.2.1, by omega, fun p3 H5 e5 h5 => ?_⟩
        walk_at "wp"
        have P2 := eff_pm hg.perm j.flat
        refine r_ixT (n := 1) (stT (e5 _ _ hq)) rfl ?_
        walk_at "wp"
        refine ⟨p3, n, c2, _, rfl, h5, P2, by omega, hb2.1, fun p4 H6 e6 h6 => ?_⟩
        walk_at "wp"
        refine ⟨p, p4, _, _, rfl, .inl (e6 _ _ (e5 _ _ hp)), .inl h6, fun x hx => by rw [(P2.pw c2).len]; exact P1.lt x hx, by rw [P1.len]; omega, fun p5 H7 _ e7 h7 => ?_⟩
        walk_at "wp"
        refine ⟨((e3.trans e5).trans e6).trans e7, p5, _, ?_, rfl⟩
        rw [h7, hpre, eff_app hg.perm]
        simp only [Row.single]
        rw [eff_pow hg.perm, show (Row.nil : Row Str).flat = [] from rfl, show eff n ds [] = idn n from rfl, cmp_id (P2.pw c2).ef]
    · obtain ⟨e3, p, x1, hp, rfl⟩ := h
      walk_at "wp"
      rw [h2.len, Row.pre_all] at hp
      exact k p H3 (e12.trans e3) hp

end
end Eo
namespace Eo
open PySem PyProof.Rows L2 L2.DX
/-! words of the walk: wp goes on where nothing is open; hl looks an object up; ex: what stood stands -/
local macro_rules | `(tactic| walk_at "hl") => `(tactic| first | assumption | exact PlT.sq (by assumption) | (refine stT ?_; walk_at "hl") | (refine stL ?_; walk_at "hl") | (refine Ex.at (by assumption) ?_; walk_at "hl") | (refine Mu.tup (by assumption) ?_; walk_at "hl") | (refine Ex.sqT (by assumption) ?_; walk_at "hl") | (refine Ex.sqL (by assumption) ?_; walk_at "hl") | (refine Ex.plT (by assumption) ?_; walk_at "hl") | (refine Mu.plT (by assumption) ?_; walk_at "hl"))
local macro_rules | `(tactic| walk_at "ex") => `(tactic| first | assumption | exact Ex.refl _ | (refine Ex.trans ?_ (by assumption); walk_at "ex") | (refine Ex.mu ?_ (by assumption) (by first | assumption | walk_at "fr"); walk_at "ex"))
local macro_rules | `(tactic| walk_at "fr") => `(tactic| first | assumption | (refine Ex.free (by assumption) ?_; walk_at "fr"))
local macro_rules | `(tactic| walk_at "rf") => `(tactic| with_unfolding_all rfl)
local macro_rules | `(tactic| walk_at "wp") => `(tactic| repeat (with_reducible first
  | refine q_seq ?_ | refine q_asg ?_ | refine q_ret ?_ | refine q_drop ?_ | refine q_if ?_ | refine q_next ?_ | refine q_par ?_ | refine q_par3 ?_ | refine q_retN ?_ | refine q_cont ?_ | refine q_brk ?_
  | refine e_var (by with_unfolding_all rfl) ?_ | refine e_c ?_ | refine e_op ?_ | refine e_cons ?_ | refine e_nil ?_ | refine e_test ?_ | refine e_B ?_ | refine e_yes ?_ | refine e_cb ?_ | refine e_call ?_ | refine e_then ?_ | refine e_tup ?_ | refine e_lst ?_
  | refine x_bl ?_ | refine i_T ?_ | refine i_F ?_ | refine x_two ?_ | refine x_three ?_
  | refine r_I0 ?_ | refine r_add ?_ | refine r_ip ?_ | refine g_nm ?_ | refine r_eqI ?_ | refine r_neI ?_ | refine r_eq (by with_unfolding_all rfl) ?_ | refine r_ne (by with_unfolding_all rfl) ?_
  | refine e_not ?_ | refine e_and ?_ | refine e_or ?_ | refine e_andV ?_ | refine e_orV ?_ | refine e_notV ?_ | refine e_ifx ?_ | refine e_idxF ?_ | refine e_idxI ?_ | refine e_sl ?_ | refine e_part ?_ | refine e_nopart ?_ | refine f_revA ?_ | refine e_lenSet ?_ | refine l_dcT ?_ | refine e_sadd ?_ | refine q_asgS ?_ | refine q_augS ?_ | refine e_tupRg ?_ | refine e_lstRg ?_ | refine e_rg1 ?_ | refine e_rg2 ?_ | refine e_dget ?_ | refine e_din ?_ | refine e_dnotin ?_ | refine e_dget2 ?_ | refine q_dput ?_ | refine e_un ?_ | refine e_chain ?_ | refine e_bm ?_ | refine e_bm0 ?_ | refine e_fld ?_ | refine q_asgT ?_
  | refine l_any ?_ | refine l_tup ?_ | refine l_list ?_ | refine l_rng1 ?_ | refine l_rng2 ?_ | refine l_str ?_ | refine l_enumL ?_ | refine l_enumT ?_ | refine l_zip ?_ | refine l_zipM ?_
  | refine f_tup ?_ | refine f_list ?_ | refine f_rng1 ?_ | refine f_enumL ?_ | refine f_enumT ?_))
local macro_rules | `(tactic| walk_at "sz") => `(tactic| first | decide | (refine small ?_; simp; done) | (refine small ?_; simp; omega) | (refine smallL ?_; simp; done) | (refine smallL ?_; simp; omega) | (simp; done) | (simp; omega))
section
variable {P : Program} {w : World} {K : PySem.W.Frag} {mg : Str → Option Value} {base : Heap} {C : Addr} {A : Nat → Addr} {FD : Nat → FuncData}
/-- sorted(xs), xs natural numbers -/
theorem r_sortE {K : PySem.W.Frag} {H : Hp} {Q : VK} {a : Addr} {f : List Nat} (h : SqL K H a (encI f)) (k : ∀ (g : List Nat) p H1, g.Perm f → H p = none → Ex H H1 → H1 p = some (.lst (encI g)) → Q (.ref p) H1) : rSortedI K [.ref a] H Q := by
  rw [encI_ints] at h
  refine ⟨a, _, rfl, h, fun ns' p hp _ hn => ?_⟩
  have hnn : ∀ m ∈ ns', 0 ≤ m := fun m hm => by
    obtain ⟨x, _, rfl⟩ := List.mem_map.mp (hp.mem_iff.mp hm)
    omega
  have e1 : encI (ns'.map Int.toNat) = ns'.map V.int := by
    unfold encI
    rw [List.map_map]
    refine List.map_congr_left fun m hm => ?_
    have := hnn m hm
    show V.int ((m.toNat : Nat) : Int) = V.int m
    rw [Int.toNat_of_nonneg this]
  have e2 : (ns'.map Int.toNat).Perm f := by
    have := hp.map Int.toNat
    rw [List.map_map] at this
    have e3 : (f.map (Int.toNat ∘ fun (n : Nat) => (n : Int))) = f := by
      conv => rhs; rw [← List.map_id f]
      exact List.map_congr_left fun x _ => by simp
    rw [e3] at this
    exact this
  exact k _ p _ e2 hn (Ex.new hn) (by rw [upd_same, e1])
def sp_L_shut : Sp := fun vs H Q _ => ∃ (b : Addr) (s n : Nat) (us : List V) (fs : List (List Nat)), vs = [.ref b, .int (s : Nat)] ∧ H b = some (.lst us) ∧ TupsAt H us fs ∧ 0 < fs.length ∧ (∀ f ∈ fs, Pm n f) ∧ s < n ∧ n ≤ 49 ∧
  ∀ (T : List Nat) p H', Ex H H' → PlT H' p (encI T) → T.Nodup → (∀ t ∈ T, t < n) → (∀ f ∈ fs, ∀ t ∈ T, ap f t ∈ T) → Q (.ref p) H'
theorem ok_L_shut (T : Tx K mg C A FD) : (FnOk P w K mg base CX0 1 (A 64) (FD 64) ["_law_images_of_all", "_law_start"] sp_L_shut) := by
  refine T.d_L_shut.F.ok sc_L_shut (fun vs H Q E h => by obtain ⟨b, s, n, us, fs, rfl, hb, hus, h0, hpm, hs, hn, k⟩ := h; rfl) (fun cdv A0 outer s H vs Q E hr h => ?_)
  obtain ⟨b, s, n, us, fs, rfl, hb, hus, h0, hpm, hs, hn, k⟩ := h
  have hu := hu_of hr
  have hu64 := hr.units
  have hu2 : _ + 65 < cLine := (fun {A : Around} {k} (hr : Room k A) => (by have := hr.un; omega : A.units + 65 < cLine)) hr
  refine ⟨_, (pss_cons (ps_set (i := 2) sc_L_shut.nd rfl (.inl rfl) (pe_lst (pa_cons (pv 1) pa_nil)))
    (pss_cons (ps_for PassesOwn.never rfl (pi_range1 (by rfl) T.z_range (pa_cons (pe_callB (kcall_len K) (by rfl) T.z_len (by decide +kernel) (pa_cons (pe_ix (kix_list K) (pv 0) pe_int (fun _ _ => rfl)) pa_nil)) pa_nil)) (pg_name (i := 3) sc_L_shut.nd rfl (by first | exact .inl rfl | exact .inr rfl)) (pss_one (ps_for PassesOwn.never rfl (kpi_list K (pe_ifExp (pt_cmpR op_lt (pv 3) (pe_callB (kcall_len K) (by rfl) T.z_len (by decide +kernel) (pa_cons (pv 2) pa_nil)) (nomark _)) (pv 0) (pe_lst pa_nil))) (pg_name (i := 4) sc_L_shut.nd rfl (by first | exact .inl rfl | exact .inr rfl)) (pss_one (ps_if (pt_cmpR (kop_notIn K) (pe_ix (kix_tup K) (pv 4) (pe_ix (kix_list K) (pv 2) (pv 3) (fun _ _ => rfl)) (fun _ _ => rfl)) (pv 2) rfl) (pss_one (ps_expr (kpe_bm K PySem.F.plainAttrs_list PySem.F.slot_list_append PySem.F.type_list_append mt_append (pv 2) (pa_cons (pe_ix (kix_tup K) (pv 4) (pe_ix (kix_list K) (pv 2) (pv 3) (fun _ _ => rfl)) (fun _ _ => rfl)) pa_nil)))) pss_nil)))))
    (pss_one (ps_ret (kpe_tupleF K (by rfl) T.z_tuple (pe_callB (kcr_sortedI K) (by rfl) T.z_sorted (by decide +kernel) (pa_cons (pv 2) pa_nil))))))), ?_⟩
  clear hu hu64 hu2
  walk_at "wp"
  refine al (by walk_at "sz") fun r H1 hr e1 h1 => ?_
  walk_at "wp"
  obtain ⟨f0, hf0⟩ : ∃ f, fs[0]? = some f := ⟨_, List.getElem?_eq_getElem h0⟩
  obtain ⟨q0, g1, g2⟩ := (hus.ei e1.ei).2 0 f0 hf0
  refine r_ixL (n := 0) (stL (e1 _ _ hb)) (atI_ok (n := 0) g1) ?_
  walk_at "wp"
  refine r_lenT (stT g2) ?_
  rw [encI_len, (hpm _ (List.mem_of_getElem? hf0)).len]
  have hr1 : H1 r = some (.lst (encI [s])) := h1
  refine ⟨(n : Nat), rfl, by omega, by omega, fr_W walk_range (fun i σ H2 => Ex H H2 ∧ ∃ (x y : Option V) (F : List Nat), σ = [some (.ref b), some (.int (s : Nat)), some (.ref r), x, y] ∧ H2 r = some (.lst (encI F)) ∧ F.Nodup ∧ (∀ t ∈ F, t < n) ∧ ∀ j, j < i → j < F.length → ∀ f ∈ fs, ap f (ap F j) ∈ F)
    ⟨e1, _, _, [s], rfl, hr1, by simp, fun t ht => by rw [List.mem_singleton] at ht; omega, fun j hj => by omega⟩ (fun _ _ _ _ _ => trivial) (fun i x σ H2 H3 hi h y => ?_) (fun σ H2 h => ?_)⟩
  · obtain ⟨e2, x0, y0, F, rfl, hF, nd, hlt, hcl⟩ := h
    obtain ⟨rfl, rfl⟩ := y_rng y
    have hFn := nodup_lt_len nd hlt
    walk_at "wp"
    refine r_lenL (stL hF) ?_
    rw [encI_len]
    walk_at "wp"
    refine i_d (fun h => ?_) (fun h => ?_)
    · have hiF : i < F.length := by omega
      walk_at "wp"
      refine ⟨b, rfl, ⟨_, stL (e2 _ _ hb)⟩, fr_W walk_list (fun m σ H4 => Ex H H4 ∧ ∃ (y : Option V) (G : List Nat), σ = [some (.ref b), some (.int (s : Nat)), some (.ref r), some (.int (i : Nat)), y] ∧ H4 r = some (.lst (encI (F ++ G))) ∧ (F ++ G).Nodup ∧ (∀ t ∈ F ++ G, t < n) ∧ ∀ (u : Nat) f, u < m → fs[u]? = some f → ap f (ap F i) ∈ F ++ G)
        ⟨e2, _, [], rfl, by rw [List.append_nil]; exact hF, by rw [List.append_nil]; exact nd, by rw [List.append_nil]; exact hlt, fun u f hu => by omega⟩ (fun m σ H4 hi h => stL (h.1 _ _ hb)) (fun m x σ H4 H5 hm h y => ?_) (fun σ H4 h => ?_)⟩
      · obtain ⟨e4, y1, G, rfl, hG, ndG, hltG, hcG⟩ := h
        obtain ⟨rfl, hx⟩ := y
        obtain ⟨f, q, hfm, rfl, hq⟩ := (hus.ei e4.ei).get hx
        have pf := hpm f (List.mem_of_getElem? hfm)
        have hGn := nodup_lt_len ndG hltG
        have hap : ap (F ++ G) i = ap F i := by
          unfold ap
          rw [List.getD_eq_getElem?_getD, List.getElem?_append_left hiF, ← List.getD_eq_getElem?_getD]
        have hlti : ap F i < n := hlt _ (ap_mem hiF)
        have hiFG : i < (F ++ G).length := by rw [List.length_append]; omega
        walk_at "wp"
        refine r_ixEL (stL hG) hiFG ?_
        rw [hap]
        refine r_ixE (stT hq) (by rw [pf.len]; exact hlti) ?_
        walk_at "wp"
        refine r_ninE (.inl (stL hG)) ?_
        walk_at "wp"
        refine i_n (fun hin => ?_) (fun hin => ?_)
        · walk_at "wp"
          refine ty_list (stL hG) ?_
          walk_at "wp"
          refine r_ixEL (stL hG) hiFG ?_
          rw [hap]
          refine r_ixE (stT hq) (by rw [pf.len]; exact hlti) ?_
          walk_at "wp"
          refine r_app hG (smallL (by rw [encI_len]; omega)) fun H6 m6 h6 => ?_
          refine ⟨e4.mu m6 hr, _, G ++ [ap f (ap F i)], rfl, by rw [h6, encI_snoc, List.append_assoc], ?_, fun t ht => ?_, fun u g hu hg => ?_⟩
          · rw [← List.append_assoc, List.nodup_append]
            exact ⟨ndG, by simp, fun x hx y hy e => by rw [List.mem_singleton] at hy; subst hy; subst e; exact hin hx⟩
          · rw [← List.append_assoc] at ht
            rcases List.mem_append.mp ht with ht | ht
            · exact hltG t ht
            · rw [List.mem_singleton] at ht
              subst ht
              exact pf.ap_lt hlti
          · rw [← List.append_assoc]
            by_cases hu2 : u < m
            · exact List.mem_append_left _ (hcG u g hu2 hg)
            · have : u = m := by omega
              subst this
              rw [hfm] at hg
              cases hg
              exact List.mem_append_right _ (by simp)
        · walk_at "wp"
          refine ⟨e4, _, G, rfl, hG, ndG, hltG, fun u g hu hg => ?_⟩
          by_cases hu2 : u < m
          · exact hcG u g hu2 hg
          · have : u = m := by omega
            subst this
            rw [hfm] at hg
            cases hg
            exact hin
      · obtain ⟨e4, y1, G, rfl, hG, ndG, hltG, hcG⟩ := h
        refine ⟨e4, _, _, F ++ G, rfl, hG, ndG, hltG, fun j hj hj2 f hf => ?_⟩
        obtain ⟨u, hu, hfu⟩ := List.getElem_of_mem hf
        have hap : ∀ j, j < F.length → ap (F ++ G) j = ap F j := fun j hj => by
          unfold ap
          rw [List.getD_eq_getElem?_getD, List.getElem?_append_left hj, ← List.getD_eq_getElem?_getD]
        by_cases hji : j = i
        · subst hji
          rw [hap j hiF]
          exact hcG u f (by rw [hus.1]; exact hu) (by rw [List.getElem?_eq_getElem hu, hfu])
        · rw [hap j (by omega)]
          exact List.mem_append_left _ (hcl j (by omega) (by omega) f hf)
    · walk_at "wp"
      refine al (by walk_at "sz") fun el H4 hel e4 h4 => ?_
      refine ⟨el, rfl, ⟨_, stL h4⟩, fr_W walk_list (fun m σ H5 => Ex H H5 ∧ H5 el = some (.lst []) ∧ ∃ (y : Option V), σ = [some (.ref b), some (.int (s : Nat)), some (.ref r), some (.int (i : Nat)), y] ∧ H5 r = some (.lst (encI F)))
        ⟨e2.trans e4, h4, _, rfl, e4 _ _ hF⟩ (fun m σ H5 hi h => stL h.2.1) (fun m x σ H5 H6 hm h y => by simp at hm) (fun σ H5 h => ?_)⟩
      obtain ⟨e5, _, y1, rfl, hF5⟩ := h
      refine ⟨e5, _, _, F, rfl, hF5, nd, hlt, fun j hj hj2 => hcl j (by omega) hj2⟩
  · obtain ⟨e2, x0, y0, F, rfl, hF, nd, hlt, hcl⟩ := h
    have hFn := nodup_lt_len nd hlt
    walk_at "wp"
    refine r_sortE (stL hF) fun g p H3 hg hp e3 h3 => ?_
    refine r_tupF (stL h3) fun q H4 e4 h4 => ?_
    refine k g q H4 ((e2.trans e3).trans e4) h4 (hg.nodup_iff.mpr nd) (fun t ht => hlt t (hg.mem_iff.mp ht)) fun f hf t ht => ?_
    obtain ⟨j, hj, rfl⟩ := mem_ap (hg.mem_iff.mp ht)
    exact hg.mem_iff.mpr (hcl j (by have : j < n := by omega
                                    exact this) hj f hf)

end
end Eo
namespace Eo
open PySem PyProof.Rows L2 L2.DX
/-! words of the walk: wp goes on where nothing is open; hl looks an object up; ex: what stood stands -/
local macro_rules | `(tactic| walk_at "hl") => `(tactic| first | assumption | exact PlT.sq (by assumption) | (refine stT ?_; walk_at "hl") | (refine stL ?_; walk_at "hl") | (refine Ex.at (by assumption) ?_; walk_at "hl") | (refine Mu.tup (by assumption) ?_; walk_at "hl") | (refine Ex.sqT (by assumption) ?_; walk_at "hl") | (refine Ex.sqL (by assumption) ?_; walk_at "hl") | (refine Ex.plT (by assumption) ?_; walk_at "hl") | (refine Mu.plT (by assumption) ?_; walk_at "hl"))
local macro_rules | `(tactic| walk_at "ex") => `(tactic| first | assumption | exact Ex.refl _ | (refine Ex.trans ?_ (by assumption); walk_at "ex") | (refine Ex.mu ?_ (by assumption) (by first | assumption | walk_at "fr"); walk_at "ex"))
local macro_rules | `(tactic| walk_at "fr") => `(tactic| first | assumption | (refine Ex.free (by assumption) ?_; walk_at "fr"))
local macro_rules | `(tactic| walk_at "rf") => `(tactic| with_unfolding_all rfl)
local macro_rules | `(tactic| walk_at "wp") => `(tactic| repeat (with_reducible first
  | refine q_seq ?_ | refine q_asg ?_ | refine q_ret ?_ | refine q_drop ?_ | refine q_if ?_ | refine q_next ?_ | refine q_par ?_ | refine q_par3 ?_ | refine q_retN ?_ | refine q_cont ?_ | refine q_brk ?_
  | refine e_var (by with_unfolding_all rfl) ?_ | refine e_c ?_ | refine e_op ?_ | refine e_cons ?_ | refine e_nil ?_ | refine e_test ?_ | refine e_B ?_ | refine e_yes ?_ | refine e_cb ?_ | refine e_call ?_ | refine e_then ?_ | refine e_tup ?_ | refine e_lst ?_
  | refine x_bl ?_ | refine i_T ?_ | refine i_F ?_ | refine x_two ?_ | refine x_three ?_
  | refine r_I0 ?_ | refine r_add ?_ | refine r_ip ?_ | refine g_nm ?_ | refine r_eqI ?_ | refine r_neI ?_ | refine r_eq (by with_unfolding_all rfl) ?_ | refine r_ne (by with_unfolding_all rfl) ?_
  | refine e_not ?_ | refine e_and ?_ | refine e_or ?_ | refine e_andV ?_ | refine e_orV ?_ | refine e_notV ?_ | refine e_ifx ?_ | refine e_idxF ?_ | refine e_idxI ?_ | refine e_sl ?_ | refine e_part ?_ | refine e_nopart ?_ | refine f_revA ?_ | refine e_lenSet ?_ | refine l_dcT ?_ | refine e_sadd ?_ | refine q_asgS ?_ | refine q_augS ?_ | refine e_tupRg ?_ | refine e_lstRg ?_ | refine e_rg1 ?_ | refine e_rg2 ?_ | refine e_dget ?_ | refine e_din ?_ | refine e_dnotin ?_ | refine e_dget2 ?_ | refine q_dput ?_ | refine e_un ?_ | refine e_chain ?_ | refine e_bm ?_ | refine e_bm0 ?_ | refine e_fld ?_ | refine q_asgT ?_
  | refine l_any ?_ | refine l_tup ?_ | refine l_list ?_ | refine l_rng1 ?_ | refine l_rng2 ?_ | refine l_str ?_ | refine l_enumL ?_ | refine l_enumT ?_ | refine l_zip ?_ | refine l_zipM ?_
  | refine f_tup ?_ | refine f_list ?_ | refine f_rng1 ?_ | refine f_enumL ?_ | refine f_enumT ?_))
local macro_rules | `(tactic| walk_at "sz") => `(tactic| first | decide | (refine small ?_; simp; done) | (refine small ?_; simp; omega) | (refine smallL ?_; simp; done) | (refine smallL ?_; simp; omega) | (simp; done) | (simp; omega))
section
variable {P : Program} {w : World} {K : PySem.W.Frag} {mg : Str → Option Value} {base : Heap} {C : Addr} {A : Nat → Addr} {FD : Nat → FuncData}
def sp_L_parts_right : Sp := fun vs H Q _ => ∃ (b t r1 r2 : Addr) (n i j : Nat) (r s : Row Str) (ds : Ds) (us : List V), vs = [.ref b, .ref t] ∧ H b = some (.lst us) ∧ DeedsAt H us ds ∧ Good n ds ∧ H t = some (.tup [.str "astray", .ref r1, .ref r2, .int (i : Nat), .int (j : Nat)]) ∧ Rw H r1 r ∧ Rw H r2 s ∧ (∀ x, r.cnt x = s.cnt x) ∧ r.Names (nms ds) ∧ s.Names (nms ds) ∧ r.depth ≤ 2 ∧ s.depth ≤ 2 ∧ r.Below (2 ^ 64) ∧ s.Below (2 ^ 64) ∧
  i < n ∧ j < n ∧ ap (eff n ds r.flat) i = ap (eff n ds s.flat) i ∧ ap (eff n ds r.flat) j ≠ ap (eff n ds s.flat) j ∧ ∀ H', Ex H H' → Q (.bl true) H'
theorem ok_L_parts_right (T : Tx K mg C A FD) : (FnOk P w K mg base CX0 8 (A 63) (FD 63) ["_law_deeds_here", "_law_told"] sp_L_parts_right) := by
  refine T.d_L_parts_right.F.ok sc_L_parts_right (fun vs H Q E h => by obtain ⟨b, t, r1, r2, n, i, j, r, s2, ds, us, rfl, hb, hus, hg, ht, hr1, hr2, hc, hN1, hN2, hd1, hd2, hB1, hB2, hi, hj, he, hne, k⟩ := h; rfl) (fun cdv A0 outer s H vs Q E hr h => ?_)
  obtain ⟨b, t, r1, r2, n, i, j, r, s2, ds, us, rfl, hb, hus, hg, ht, hr1, hr2, hc, hN1, hN2, hd1, hd2, hB1, hB2, hi, hj, he, hne, k⟩ := h
  have hu := hu_of hr
  have hu64 := hr.units
  have hu2 : _ + 65 < cLine := (fun {A : Around} {k} (hr : Room k A) => (by have := hr.un; omega : A.units + 65 < cLine)) hr
  refine ⟨_, (pss_cons (ps_par3 (i := 2) (j := 3) (l := 4) rfl sc_L_parts_right.nd rfl rfl rfl (by decide) (by decide) (by decide) rfl rfl rfl (pa_cons (pe_lc rfl sc_L_parts_right.nd (kpi_list K (pv 0)) (blkOk_by (own := [("_law_name", 7), ("_law_images", 8)]) (N := N_L_parts_right) (sc := defScope s_L_parts_right) (by decide +kernel)) (fun _ _ _ _ _ => (kpg_tup K (n := 2) (by rfl) (pgs_cons (pg_name (i := 7) sc_L_parts_right.nd rfl (by first | exact .inl rfl | exact .inr rfl)) (pgs_cons (pg_name (i := 8) sc_L_parts_right.nd rfl (by first | exact .inl rfl | exact .inr rfl)) pgs_nil)))) (fun _ _ _ _ _ => pts_nil) (fun _ _ _ _ _ => (pv 7))) (pa_cons (pe_ix (kix_tup K) (pv 1) pe_int (fun _ _ => rfl)) (pa_cons (pe_ix (kix_tup K) (pv 1) pe_int (fun _ _ => rfl)) pa_nil))) rfl)
    (pss_cons (ps_if (pt_cmpR (kop_neD K hu64) (pe_call (ok_L_counts T 4) (hr.mono (by decide)) (by rfl) T.d_L_counts.g T.d_L_counts.F.kp T.d_L_counts.b .nil pass0 (pa_cons (pv 2) (pa_cons (pv 3) pa_nil))) (pe_call (ok_L_counts T 4) (hr.mono (by decide)) (by rfl) T.d_L_counts.g T.d_L_counts.F.kp T.d_L_counts.b .nil pass0 (pa_cons (pv 2) (pa_cons (pv 4) pa_nil))) (nomark _)) (pss_one (ps_ret pe_bl)) pss_nil)
    (pss_cons (ps_par (i := 5) (j := 6) rfl sc_L_parts_right.nd rfl rfl (by decide) rfl rfl (pa_cons (pe_call (ok_L_effect T 4) (hr.mono (by decide)) (by rfl) T.d_L_effect.g T.d_L_effect.F.kp T.d_L_effect.b .nil pass0 (pa_cons (pv 0) (pa_cons (pv 3) pa_nil))) (pa_cons (pe_call (ok_L_effect T 4) (hr.mono (by decide)) (by rfl) T.d_L_effect.g T.d_L_effect.F.kp T.d_L_effect.b .nil pass0 (pa_cons (pv 0) (pa_cons (pv 4) pa_nil))) pa_nil)) rfl)
    (pss_one (ps_ret (pe_and (pe_cmpR op_eq (pe_ix (kix_list K) (pv 5) (pe_ix (kix_tup K) (pv 1) pe_int (fun _ _ => rfl)) (fun _ _ => rfl)) (pe_ix (kix_list K) (pv 6) (pe_ix (kix_tup K) (pv 1) pe_int (fun _ _ => rfl)) (fun _ _ => rfl)) (nomark _)) (pe_one (pe_cmpR op_ne (pe_ix (kix_list K) (pv 5) (pe_ix (kix_tup K) (pv 1) pe_int (fun _ _ => rfl)) (fun _ _ => rfl)) (pe_ix (kix_list K) (pv 6) (pe_ix (kix_tup K) (pv 1) pe_int (fun _ _ => rfl)) (fun _ _ => rfl)) (nomark _))))))))), ?_⟩
  clear hu hu64 hu2
  walk_at "wp"
  have eight := hg.eight
  have hlen : (nms ds).length = ds.length := by simp
  refine ⟨b, rfl, ⟨_, stL hb⟩, lc_V ((nms ds).map V.str) (wk_list (stL hb)) (by rw [hus.1]; omega) (by rw [List.length_map, List.length_map, hus.1]) (fun i y z H2 H3 hz e hy R hR => ?_) fun D H2 hD e2 hDl => ?_⟩
  · obtain ⟨rfl, hy⟩ := hy
    obtain ⟨x', f', p, q', hi, rfl, hp, _⟩ := (hus.ei e.ei).get hy
    refine g_two (stT hp) ?_
    refine ⟨rfl, ?_⟩
    walk_at "wp"
    rw [List.getElem?_map, List.getElem?_map, hi] at hz
    cases hz
    exact hR _ (Ex.refl _)
  walk_at "wp"
  refine r_ixT (n := 1) (stT (e2 _ _ ht)) rfl ?_
  walk_at "wp"
  refine r_ixT (n := 2) (stT (e2 _ _ ht)) rfl ?_
  walk_at "wp"
  refine ⟨r1, D, r, nms ds, rfl, hr1.ex e2, hDl, hN1, hg.apart, by omega, hB1, by omega, fun p3 H3 _ e3 h3 => ?_⟩
  walk_at "wp"
  have e23 := e2.trans e3
  refine ⟨r2, D, s2, nms ds, rfl, hr2.ex e23, e3 _ _ hDl, hN2, hg.apart, by omega, hB2, by omega, fun p4 H4 _ e4 h4 => ?_⟩
  refine r_neL (stL (e4 _ _ h3)) (stL h4) ?_
  walk_at "wp"
  refine i_nF (List.map_congr_left fun x _ => hc x) ?_
  walk_at "wp"
  have e24 := e23.trans e4
  refine ⟨r1, b, n, r, ds, us, rfl, hr1.ex e24, e24 _ _ hb, hus.ei e24.ei, hg, hN1, hB1, by omega, fun p5 H5 e5 h5 => ?_⟩
  walk_at "wp"
  have e25 := e24.trans e5
  refine ⟨r2, b, n, s2, ds, us, rfl, hr2.ex e25, e25 _ _ hb, hus.ei e25.ei, hg, hN2, hB2, by omega, fun p6 H6 e6 h6 => ?_⟩
  walk_at "wp"
  have e26 := e25.trans e6
  have P1 := eff_pm hg.perm r.flat
  have P2 := eff_pm hg.perm s2.flat
  have ht6 := e26 _ _ ht
  refine r_ixT (n := 3) (stT ht6) rfl ?_
  refine r_ixEL (stL (e6 _ _ h5)) (by rw [P1.len]; exact hi) ?_
  walk_at "wp"
  refine r_ixT (n := 3) (stT ht6) rfl ?_
  refine r_ixEL (stL h6) (by rw [P2.len]; exact hi) ?_
  walk_at "wp"
  refine i_dT (by rw [he]) ?_
  walk_at "wp"
  refine r_ixT (n := 4) (stT ht6) rfl ?_
  refine r_ixEL (stL (e6 _ _ h5)) (by rw [P1.len]; exact hj) ?_
  walk_at "wp"
  refine r_ixT (n := 4) (stT ht6) rfl ?_
  refine r_ixEL (stL h6) (by rw [P2.len]; exact hj) ?_
  walk_at "wp"
  rw [decide_eq_false (by omega)]
  exact k H6 e26
theorem e_revL {K : PySem.W.Frag} {te : TE} {σ : L2.St} {H : Hp} {Q : VK} (k : te σ H fun x H1 => ∃ a xs, x = .ref a ∧ SqL K H1 a xs ∧ ∀ p, H1 p = none → Q (.ref p) (upd H1 p (.lst xs.reverse))) : tRevL K te σ H Q := k
def sp_L_deal (K0 : PySem.W.Frag) : Sp := fun vs H Q _ => ∃ (a : Addr) (ns : List Int) (b : Nat), vs = [.ref a, .int (b : Nat)] ∧ SqL K0 H a (ns.map V.int) ∧ b < 1000 ∧ ∀ l c H', H l = none → H c = none → Ex H H' → DealAt H' l c → Q (.ref l) H'
theorem ok_L_deal (T : Tx K mg C A FD) : (FnOk P w K mg base CX0 1 (A 42) (FD 42) ["_law_script", "_law_base"] (sp_L_deal K)) := by
  refine T.d_L_deal.F.ok sc_L_deal (fun vs H Q E h => by obtain ⟨a, ns, b, rfl, ha, hb, k⟩ := h; rfl) (fun cdv A0 outer s H vs Q E hr h => ?_)
  obtain ⟨a, ns, b, rfl, ha, hb, k⟩ := h
  have hu := hu_of hr
  have hu64 := hr.units
  have hu2 : _ + 65 < cLine := (fun {A : Around} {k} (hr : Room k A) => (by have := hr.un; omega : A.units + 65 < cLine)) hr
  refine ⟨_, (pss_cons (ps_setLc (i := 2) rfl sc_L_deal.nd rfl rfl (sw_true rfl rfl rfl (by decide +kernel)) (kpi_list K (pe_slice (ksl_list K) (pv 0) po_none (po_some pe_int))) (blkOk_by (own := [("_law_cell", 3)]) (N := N_L_deal) (sc := defScope s_L_deal) (by decide +kernel)) (fun _ _ _ _ _ => (pg_name (i := 3) sc_L_deal.nd rfl (by first | exact .inl rfl | exact .inr rfl))) (fun _ _ _ _ _ => pts_nil) (fun _ _ _ _ _ => (pe_callB kcall_abs (by rfl) T.z_abs (by decide +kernel) (pa_cons (pe_callTy kcall_int (by rfl) T.z_int (by decide +kernel) (pa_cons (pv 3) pa_nil)) pa_nil))))
    (pss_cons (ps_set (i := 4) sc_L_deal.nd rfl (.inl rfl) (pe_op op_add (pe_op op_mul pe_int (pv 1)) pe_int))
    (pss_cons (ps_for PassesOwn.never rfl (kpi_list K (pv 2)) (pg_name (i := 3) sc_L_deal.nd rfl (by first | exact .inl rfl | exact .inr rfl)) (pss_one (ps_set (i := 4) sc_L_deal.nd rfl (.inl rfl) (pe_op op_mod (pe_callTy kcall_int (by rfl) T.z_int (by decide +kernel) (pa_cons (pe_op op_add (pe_op op_add (pe_op op_mul (pv 4) pe_int) (pe_op op_mod (pv 3) pe_int)) pe_int) pa_nil)) pe_int))))
    (pss_one (ps_ret (pe_lst (pa_cons (kpe_revL K (pe_lc rfl sc_L_deal.nd (kpi_list K (pv 2)) (blkOk_by (own := [("_law_cell", 3)]) (N := N_L_deal) (sc := defScope s_L_deal) (by decide +kernel)) (fun _ _ _ _ _ => (pg_name (i := 3) sc_L_deal.nd rfl (by first | exact .inl rfl | exact .inr rfl))) (fun _ _ _ _ _ => (pts_one (pt_cmpR op_ge (pv 3) (pe_op op_pow pe_int pe_int) (nomark _)))) (fun _ _ _ _ _ => (pv 3)))) (pa_cons (pv 4) pa_nil)))))))), ?_⟩
  clear hu hu64 hu2
  walk_at "wp"
  refine ⟨63, rfl, r_slL (i := 63) ha fun p H1 hp e1 h1 => ?_⟩
  rw [← List.map_take] at h1
  have hL : ((ns.take 63).map V.int).length ≤ 63 := by rw [List.length_map, List.length_take]; omega
  have hcl : ((ns.take 63).map Int.natAbs).length ≤ 63 := by rw [List.length_map, List.length_take]; omega
  generalize hcs : (ns.take 63).map Int.natAbs = cs at hcl
  refine ⟨p, rfl, ⟨_, stL h1⟩, lc_V (encI cs) (wk_list (stL h1)) (by omega) (by rw [encI_len, ← hcs, List.length_map, List.length_map]) (fun i y z H2 H3 hz e hy R hR => ?_) fun D H2 hD e2 hDl => ?_⟩
  · obtain ⟨rfl, hy⟩ := hy
    rw [List.getElem?_map, Option.map_eq_some_iff] at hy
    obtain ⟨m, hm, rfl⟩ := hy
    refine ⟨rfl, ?_⟩
    walk_at "wp"
    refine ⟨m, rfl, ?_⟩
    walk_at "wp"
    refine ⟨m, rfl, ?_⟩
    have hz2 : z = .int ((m.natAbs : Nat) : Int) := by
      rw [← hcs] at hz
      unfold encI at hz
      rw [List.getElem?_map, List.getElem?_map, hm] at hz
      exact (Option.some.inj hz).symm
    have : (if m < 0 then -m else m) = ((m.natAbs : Nat) : Int) := by split <;> omega
    rw [this, ← hz2]
    exact hR _ (Ex.refl _)
  walk_at "wp"
  refine r_mulL (by decide) (by decide) ?_
  walk_at "wp"
  have e12 := e1.trans e2
  refine ⟨D, rfl, ⟨_, stL hDl⟩, fr_W walk_list (fun i σ H3 => H3 = H2 ∧ ∃ (x : Option V) (mx : Nat), σ = [some (.ref a), some (.int (b : Nat)), some (.ref D), x, some (.int (mx : Nat))] ∧ mx < 2147483629) ⟨rfl, _, 60493 * b + 1607, rfl, by omega⟩ (fun i σ H3 hi h => by rw [h.1]; exact stL hDl) (fun i x σ H3 H4 hi h y => ?_) (fun σ H3 h => ?_)⟩
  · obtain ⟨rfl, x0, mx, rfl, hmx⟩ := h
    obtain ⟨rfl, hx⟩ := y
    obtain ⟨hi2, rfl⟩ := encI_at hx
    walk_at "wp"
    refine r_mulR (by decide) (by decide) ?_
    walk_at "wp"
    refine r_mod (by decide) ?_
    walk_at "wp"
    refine ⟨_, rfl, ?_⟩
    walk_at "wp"
    refine r_mod (by decide) ?_
    have : ((mx : Int) * 48017 + ((ap cs i : Nat) : Int) % 2147483587 + 83) % 2147483629 = (((mx * 48017 + ap cs i % 2147483587 + 83) % 2147483629 : Nat) : Int) := by simp
    rw [this]
    exact ⟨rfl, _, _, rfl, Nat.mod_lt _ (by decide)⟩
  · obtain ⟨rfl, x0, mx, rfl, hmx⟩ := h
    walk_at "wp"
    refine e_revL ?_
    walk_at "wp"
    refine ⟨D, rfl, ⟨_, stL hDl⟩, lc_I (fun i acc _ => ∃ us : List Nat, acc = encI us ∧ us.length ≤ i) (wk_list (stL hDl)) (by rw [encI_len]; omega) (fun _ _ => ⟨[], rfl, Nat.le_refl _⟩) (fun _ _ _ _ _ h => h) (fun i acc x H4 H5 hi e hI y P N hP hN => ?_) fun D2 acc H4 hD2 e4 hDl2 hal hI => ?_⟩
    · obtain ⟨rfl, hx⟩ := y
      obtain ⟨hi2, rfl⟩ := encI_at hx
      obtain ⟨us, rfl, hul⟩ := hI
      refine ⟨rfl, ?_⟩
      walk_at "wp"
      refine ⟨10, 18, rfl, rfl, ⟨by decide, by decide, by decide⟩, ?_⟩
      walk_at "wp"
      refine i_d (fun h => ?_) (fun h => ?_)
      · walk_at "wp"
        exact hP _ _ (Ex.refl _) ⟨us ++ [ap cs i], encI_snoc _ _, by rw [List.length_append, List.length_singleton]; omega⟩
      · exact hN _ (Ex.refl _) ⟨us, rfl, by omega⟩
    · obtain ⟨us, rfl, hul⟩ := hI
      rw [encI_len] at hul
      refine ⟨D2, _, rfl, stL hDl2, fun c hc => ?_⟩
      have e5 : Ex H4 (upd H4 c (.lst (encI us).reverse)) := Ex.new hc
      have h5 : upd H4 c (.lst (encI us).reverse) c = some (.lst (encI us.reverse)) := by
        rw [upd_same]
        unfold encI
        rw [List.map_reverse]
      generalize upd H4 c (.lst (encI us).reverse) = H5 at e5 h5
      walk_at "wp"
      refine al (by walk_at "sz") fun l H6 hl e6 h6 => ?_
      have hne : l ≠ c := fun e => by rw [e, h5] at hl; cases hl
      exact k l c H6 (e12.free (e4.free (e5.free hl))) (e12.free (e4.free hc)) (((e12.trans e4).trans e5).trans e6) ⟨⟨us.reverse, mx, h6, e6 _ _ h5, by rw [List.length_reverse]; omega⟩, hne⟩

end
end Eo
namespace Eo
open PySem PyProof.Rows L2 L2.DX
/-! words of the walk: wp goes on where nothing is open; hl looks an object up; ex: what stood stands -/
local macro_rules | `(tactic| walk_at "hl") => `(tactic| first | assumption | exact PlT.sq (by assumption) | (refine stT ?_; walk_at "hl") | (refine stL ?_; walk_at "hl") | (refine Ex.at (by assumption) ?_; walk_at "hl") | (refine Mu.tup (by assumption) ?_; walk_at "hl") | (refine Ex.sqT (by assumption) ?_; walk_at "hl") | (refine Ex.sqL (by assumption) ?_; walk_at "hl") | (refine Ex.plT (by assumption) ?_; walk_at "hl") | (refine Mu.plT (by assumption) ?_; walk_at "hl"))
local macro_rules | `(tactic| walk_at "ex") => `(tactic| first | assumption | exact Ex.refl _ | (refine Ex.trans ?_ (by assumption); walk_at "ex") | (refine Ex.mu ?_ (by assumption) (by first | assumption | walk_at "fr"); walk_at "ex"))
local macro_rules | `(tactic| walk_at "fr") => `(tactic| first | assumption | (refine Ex.free (by assumption) ?_; walk_at "fr"))
local macro_rules | `(tactic| walk_at "rf") => `(tactic| with_unfolding_all rfl)
local macro_rules | `(tactic| walk_at "wp") => `(tactic| repeat (with_reducible first
  | refine q_seq ?_ | refine q_asg ?_ | refine q_ret ?_ | refine q_drop ?_ | refine q_if ?_ | refine q_next ?_ | refine q_par ?_ | refine q_par3 ?_ | refine q_retN ?_ | refine q_cont ?_ | refine q_brk ?_
  | refine e_var (by with_unfolding_all rfl) ?_ | refine e_c ?_ | refine e_op ?_ | refine e_cons ?_ | refine e_nil ?_ | refine e_test ?_ | refine e_B ?_ | refine e_yes ?_ | refine e_cb ?_ | refine e_call ?_ | refine e_then ?_ | refine e_tup ?_ | refine e_lst ?_
  | refine x_bl ?_ | refine i_T ?_ | refine i_F ?_ | refine x_two ?_ | refine x_three ?_
  | refine r_I0 ?_ | refine r_add ?_ | refine r_ip ?_ | refine g_nm ?_ | refine r_eqI ?_ | refine r_neI ?_ | refine r_eq (by with_unfolding_all rfl) ?_ | refine r_ne (by with_unfolding_all rfl) ?_
  | refine e_not ?_ | refine e_and ?_ | refine e_or ?_ | refine e_andV ?_ | refine e_orV ?_ | refine e_notV ?_ | refine e_ifx ?_ | refine e_idxF ?_ | refine e_idxI ?_ | refine e_sl ?_ | refine e_part ?_ | refine e_nopart ?_ | refine f_revA ?_ | refine e_lenSet ?_ | refine l_dcT ?_ | refine e_sadd ?_ | refine q_asgS ?_ | refine q_augS ?_ | refine e_tupRg ?_ | refine e_lstRg ?_ | refine e_rg1 ?_ | refine e_rg2 ?_ | refine e_dget ?_ | refine e_din ?_ | refine e_dnotin ?_ | refine e_dget2 ?_ | refine q_dput ?_ | refine e_un ?_ | refine e_chain ?_ | refine e_bm ?_ | refine e_bm0 ?_ | refine e_fld ?_ | refine q_asgT ?_
  | refine l_any ?_ | refine l_tup ?_ | refine l_list ?_ | refine l_rng1 ?_ | refine l_rng2 ?_ | refine l_str ?_ | refine l_enumL ?_ | refine l_enumT ?_ | refine l_zip ?_ | refine l_zipM ?_
  | refine f_tup ?_ | refine f_list ?_ | refine f_rng1 ?_ | refine f_enumL ?_ | refine f_enumT ?_))
local macro_rules | `(tactic| walk_at "sz") => `(tactic| first | decide | (refine small ?_; simp; done) | (refine small ?_; simp; omega) | (refine smallL ?_; simp; done) | (refine smallL ?_; simp; omega) | (simp; done) | (simp; omega))
section
variable {P : Program} {w : World} {K : PySem.W.Frag} {mg : Str → Option Value} {base : Heap} {C : Addr} {A : Nat → Addr} {FD : Nat → FuncData}
def abc : Str := Str.ofString "abcdefghijklmnopqrstuvwxyz"
theorem abc_mem : ∀ c, c ∈ abc.cps.toList → 97 ≤ c ∧ c ≤ 122 := by
  have : abc.cps.toList.all (fun c => decide (97 ≤ c ∧ c ≤ 122)) = true := by decide +kernel
  intro c hc
  simpa using List.all_eq_true.mp this c hc
theorem abc_at : ∀ i, i < 26 → abc.cps.toList[i]? = some (97 + i) := by decide +kernel
theorem str_ext {x y : Str} (h : x.cps = y.cps) : x = y := by cases x; cases y; cases h; rfl
def eightOf (i : Nat) : Str := ⟨#[97 + i, 97 + i, 97 + i, 97 + i, 97 + i, 97 + i, 97 + i, 97 + i]⟩
def sp_L_names : Sp := fun vs H Q _ => ∃ (l c : Addr) (m : Nat), vs = [.ref l, .int (m : Nat)] ∧ DealAt H l c ∧ m ≤ 8 ∧ ∀ (N : List Str) p H', N.length = m → N.Nodup → (∀ z ∈ N, isName z ∧ z.length ≠ 6) → H p = none → p ≠ l → p ≠ c → Xd l c H H' → DealAt H' l c → H' p = some (.lst (N.map V.str)) → Q (.ref p) H'
theorem ok_L_names (T : Tx K mg C A FD) : (FnOk P w K mg base CX0 3 (A 55) (FD 55) ["_law_deal_here", "_law_many"] sp_L_names) := by
  refine T.d_L_names.F.ok sc_L_names (fun vs H Q E h => by obtain ⟨l, c, m, rfl, hd, hm, k⟩ := h; rfl) (fun cdv A0 outer s H vs Q E hr h => ?_)
  obtain ⟨l, c, m, rfl, hd, hm, k⟩ := h
  have hu := hu_of hr
  have hu64 := hr.units
  have hu2 : _ + 65 < cLine := (fun {A : Around} {k} (hr : Room k A) => (by have := hr.un; omega : A.units + 65 < cLine)) hr
  refine ⟨_, (pss_cons (ps_set (i := 2) sc_L_names.nd rfl (.inl rfl) (pe_lst pa_nil))
    (pss_cons (ps_for PassesOwn.never rfl (pi_range1 (by rfl) T.z_range (pa_cons (pv 1) pa_nil)) (pg_name (i := 3) sc_L_names.nd rfl (by first | exact .inl rfl | exact .inr rfl)) (pss_cons (ps_set (i := 4) sc_L_names.nd rfl (.inl rfl) pe_str)
      (pss_cons (ps_for PassesOwn.never rfl (pi_range1 (by rfl) T.z_range (pa_cons (pe_op op_add pe_int (pe_call (ok_L_any T) (hr.mono (by decide)) (by rfl) T.d_L_any.g T.d_L_any.F.kp T.d_L_any.b .nil pass0 (pa_cons (pv 0) (pa_cons pe_int pa_nil)))) pa_nil)) (pg_name (i := 5) sc_L_names.nd rfl (by first | exact .inl rfl | exact .inr rfl)) (pss_one (ps_set (i := 4) sc_L_names.nd rfl (.inl rfl) (pe_op op_add_str (pv 4) (pe_call (ok_L_ofS T) (hr.mono (by decide)) (by rfl) T.d_L_of.g T.d_L_of.F.kp T.d_L_of.b .nil pass0 (pa_cons (pv 0) (pa_cons pe_str pa_nil)))))))
      (pss_one (ps_expr (kpe_bm K PySem.F.plainAttrs_list PySem.F.slot_list_append PySem.F.type_list_append mt_append (pv 2) (pa_cons (pe_ifExp (pt_cmpR (kop_notIn K) (pv 4) (pv 2) rfl) (pv 4) (pe_op op_mul8 (pe_ix ix_str pe_str (pv 3) (fun _ _ => rfl)) pe_int)) pa_nil)))))))
    (pss_one (ps_ret (pv 2))))), ?_⟩
  clear hu hu64 hu2
  walk_at "wp"
  refine al (by walk_at "sz") fun r H1 hr e1 h1 => ?_
  walk_at "wp"
  have hrn := hd.new hr
  refine ⟨(m : Nat), rfl, by omega, by omega, fr_W walk_range (fun i σ H2 => Xd l c H H2 ∧ DealAt H2 l c ∧ ∃ (x y z : Option V) (N : List Str), σ = [some (.ref l), some (.int (m : Nat)), some (.ref r), x, y, z] ∧ H2 r = some (.lst (N.map V.str)) ∧ N.length = i ∧ N.Nodup ∧ (∀ z ∈ N, isName z) ∧ ∀ z ∈ N, z.length ≤ 3 ∨ ∃ u, u < i ∧ z = eightOf u)
    ⟨Xd.of hd e1, hd.ex' e1, _, _, _, [], rfl, h1, rfl, List.nodup_nil, fun z h => nm0 h, fun z h => nm0 h⟩ (fun _ _ _ _ _ => trivial) (fun i x σ H2 H3 hi h y => ?_) (fun σ H2 h => ?_)⟩
  · obtain ⟨x2, d2, x0, y0, z0, N, rfl, hN, hl, nd, hnm, hfo⟩ := h
    obtain ⟨rfl, rfl⟩ := y_rng y
    have hi2 : i < m := by simpa using hi
    walk_at "wp"
    refine ⟨l, c, 3, rfl, d2, by decide, by decide, fun v H4 hv x4 d4 => ?_⟩
    walk_at "wp"
    refine ⟨((1 + v : Nat) : Int), by simp, by omega, by omega, fr_W walk_range (fun u σ H5 => Xd l c H4 H5 ∧ DealAt H5 l c ∧ ∃ (z : Option V) (nm : Str), σ = [some (.ref l), some (.int (m : Nat)), some (.ref r), some (.int (i : Nat)), some (.str nm), z] ∧ nm.length = u ∧ ∀ c ∈ nm.cps.toList, 97 ≤ c ∧ c ≤ 122)
      ⟨Xd.refl d4, d4, _, _, rfl, rfl, fun c h => by cases h⟩ (fun _ _ _ _ _ => trivial) (fun u x σ H5 H6 hu h y => ?_) (fun σ H5 h => ?_)⟩
    · obtain ⟨x5, d5, z1, nm, rfl, hnl, hlet⟩ := h
      obtain ⟨rfl, rfl⟩ := y_rng y
      have hu2 : u < 3 := by
        have : u < 1 + v := by
          have h := hu
          omega
        omega
      walk_at "wp"
      refine ⟨l, c, abc, rfl, d5, by decide, by decide, fun ch H7 hch x7 d7 => ?_⟩
      walk_at "wp"
      refine ⟨nm, ⟨#[ch]⟩, rfl, rfl, small (by
        show nm.length + 1 ≤ _
        omega), ?_⟩
      walk_at "wp"
      refine ⟨x5.trans x7, d7, _, nm ++ ⟨#[ch]⟩, rfl, ?_, fun c' hc' => ?_⟩
      · show (nm.cps ++ #[ch]).size = u + 1
        rw [Array.size_append]
        have : nm.cps.size = u := hnl
        rw [this]
        rfl
      · have hc2 : c' ∈ (nm.cps ++ #[ch]).toList := hc'
        rw [Array.toList_append] at hc2
        rcases List.mem_append.mp hc2 with h | h
        · exact hlet c' h
        · have : c' = ch := by simpa using h
          subst this
          exact abc_mem _ hch
    · obtain ⟨x5, d5, z1, nm, rfl, hnl, hlet⟩ := h
      have hnl2 : nm.length = 1 + v := by
        have h := hnl
        omega
      have x25 := x4.trans x5
      have hN5 := x25.lst hN hrn.1 hrn.2
      walk_at "wp"
      refine ty_list (stL hN5) ?_
      walk_at "wp"
      have fin : ∀ (z : Str), isName z → z ∉ N → (z.length ≤ 3 ∨ ∃ u, u < i + 1 ∧ z = eightOf u) → rAppend (.ref r) [.str z] H5 fun _ H6 => Xd l c H H6 ∧ DealAt H6 l c ∧ ∃ (x y z' : Option V) (N : List Str), [some (V.ref l), some (V.int (m : Nat)), some (V.ref r), some (V.int (i : Nat)), some (V.str nm), z1] = [some (.ref l), some (.int (m : Nat)), some (.ref r), x, y, z'] ∧ H6 r = some (.lst (N.map V.str)) ∧ N.length = i + 1 ∧ N.Nodup ∧ (∀ z ∈ N, isName z) ∧ ∀ z ∈ N, z.length ≤ 3 ∨ ∃ u, u < i + 1 ∧ z = eightOf u := fun z hz hzN hzf => by
        refine r_app hN5 (smallL (by rw [List.length_map]; omega)) fun H6 m6 h6 => ?_
        have d6 : DealAt H6 l c := by
          obtain ⟨cs, mx, q1, q2, q3⟩ := d5.ex
          exact ⟨⟨cs, mx, m6.rest l _ (Ne.symm hrn.1) q1, m6.rest c _ (Ne.symm hrn.2) q2, q3⟩, d5.ne⟩
        refine ⟨(x2.trans x25).mu m6 hr, d6, _, _, _, N ++ [z], rfl, by rw [h6, List.map_append]; rfl, by rw [List.length_append, hl]; rfl, ?_, fun y hy => ?_, fun y hy => ?_⟩
        · rw [List.nodup_append]
          exact ⟨nd, by simp, fun x hx y hy e => by rw [List.mem_singleton] at hy; subst hy; subst e; exact hzN hx⟩
        · rcases List.mem_append.mp hy with hy | hy
          · exact hnm y hy
          · rw [List.mem_singleton] at hy
            subst hy
            exact hz
        · rcases List.mem_append.mp hy with hy | hy
          · exact (hfo y hy).imp id fun ⟨u, h1, h2⟩ => ⟨u, by omega, h2⟩
          · rw [List.mem_singleton] at hy
            subst hy
            exact hzf
      refine r_ninS (.inl (stL hN5)) ?_
      walk_at "wp"
      refine i_n (fun hin => ?_) (fun hin => ?_)
      · walk_at "wp"
        exact fin nm ⟨by omega, by omega, hlet⟩ hin (.inl (by omega))
      · walk_at "wp"
        refine ⟨abc, (i : Nat), 97 + i, rfl, rfl, small (by decide), atI_nat (abc_at i (by omega)), ?_⟩
        refine ⟨97 + i, rfl, rfl, ?_⟩
        refine fin (eightOf i) ⟨(by decide : 1 ≤ 8), (by decide : 8 ≤ 8), fun c' hc' => ?_⟩ (fun hmem => ?_) (.inr ⟨i, by omega, rfl⟩)
        · have : c' = 97 + i := by simpa [eightOf] using hc'
          omega
        · rcases hfo _ hmem with h | ⟨u, h1, h2⟩
          · have : (8 : Nat) ≤ 3 := h
            omega
          · have h3 := congrArg (fun s : Str => s.cps.toList) h2
            simp [eightOf] at h3
            omega
  · obtain ⟨x2, d2, x0, y0, z0, N, rfl, hN, hl, nd, hnm, hfo⟩ := h
    walk_at "wp"
    exact k N r H2 (by simpa using hl) nd (fun z hz => ⟨hnm z hz, fun e => by
      rcases hfo z hz with h | ⟨u, _, h⟩
      · omega
      · rw [h] at e
        have : (8 : Nat) = 6 := e
        omega⟩) hr hrn.1 hrn.2 x2 d2 hN

end
end Eo
namespace Eo
open PySem PyProof.Rows L2 L2.DX
/-! words of the walk: wp goes on where nothing is open; hl looks an object up; ex: what stood stands -/
local macro_rules | `(tactic| walk_at "hl") => `(tactic| first | assumption | exact PlT.sq (by assumption) | (refine stT ?_; walk_at "hl") | (refine stL ?_; walk_at "hl") | (refine Ex.at (by assumption) ?_; walk_at "hl") | (refine Mu.tup (by assumption) ?_; walk_at "hl") | (refine Ex.sqT (by assumption) ?_; walk_at "hl") | (refine Ex.sqL (by assumption) ?_; walk_at "hl") | (refine Ex.plT (by assumption) ?_; walk_at "hl") | (refine Mu.plT (by assumption) ?_; walk_at "hl"))
local macro_rules | `(tactic| walk_at "ex") => `(tactic| first | assumption | exact Ex.refl _ | (refine Ex.trans ?_ (by assumption); walk_at "ex") | (refine Ex.mu ?_ (by assumption) (by first | assumption | walk_at "fr"); walk_at "ex"))
local macro_rules | `(tactic| walk_at "fr") => `(tactic| first | assumption | (refine Ex.free (by assumption) ?_; walk_at "fr"))
local macro_rules | `(tactic| walk_at "rf") => `(tactic| with_unfolding_all rfl)
local macro_rules | `(tactic| walk_at "wp") => `(tactic| repeat (with_reducible first
  | refine q_seq ?_ | refine q_asg ?_ | refine q_ret ?_ | refine q_drop ?_ | refine q_if ?_ | refine q_next ?_ | refine q_par ?_ | refine q_par3 ?_ | refine q_retN ?_ | refine q_cont ?_ | refine q_brk ?_
  | refine e_var (by with_unfolding_all rfl) ?_ | refine e_c ?_ | refine e_op ?_ | refine e_cons ?_ | refine e_nil ?_ | refine e_test ?_ | refine e_B ?_ | refine e_yes ?_ | refine e_cb ?_ | refine e_call ?_ | refine e_then ?_ | refine e_tup ?_ | refine e_lst ?_
  | refine x_bl ?_ | refine i_T ?_ | refine i_F ?_ | refine x_two ?_ | refine x_three ?_
  | refine r_I0 ?_ | refine r_add ?_ | refine r_ip ?_ | refine g_nm ?_ | refine r_eqI ?_ | refine r_neI ?_ | refine r_eq (by with_unfolding_all rfl) ?_ | refine r_ne (by with_unfolding_all rfl) ?_
  | refine e_not ?_ | refine e_and ?_ | refine e_or ?_ | refine e_andV ?_ | refine e_orV ?_ | refine e_notV ?_ | refine e_ifx ?_ | refine e_idxF ?_ | refine e_idxI ?_ | refine e_sl ?_ | refine e_part ?_ | refine e_nopart ?_ | refine f_revA ?_ | refine e_lenSet ?_ | refine l_dcT ?_ | refine e_sadd ?_ | refine q_asgS ?_ | refine q_augS ?_ | refine e_tupRg ?_ | refine e_lstRg ?_ | refine e_rg1 ?_ | refine e_rg2 ?_ | refine e_dget ?_ | refine e_din ?_ | refine e_dnotin ?_ | refine e_dget2 ?_ | refine q_dput ?_ | refine e_un ?_ | refine e_chain ?_ | refine e_bm ?_ | refine e_bm0 ?_ | refine e_fld ?_ | refine q_asgT ?_
  | refine l_any ?_ | refine l_tup ?_ | refine l_list ?_ | refine l_rng1 ?_ | refine l_rng2 ?_ | refine l_str ?_ | refine l_enumL ?_ | refine l_enumT ?_ | refine l_zip ?_ | refine l_zipM ?_
  | refine f_tup ?_ | refine f_list ?_ | refine f_rng1 ?_ | refine f_enumL ?_ | refine f_enumT ?_))
local macro_rules | `(tactic| walk_at "sz") => `(tactic| first | decide | (refine small ?_; simp; done) | (refine small ?_; simp; omega) | (refine smallL ?_; simp; done) | (refine smallL ?_; simp; omega) | (simp; done) | (simp; omega))
section
variable {P : Program} {w : World} {K : PySem.W.Frag} {mg : Str → Option Value} {base : Heap} {C : Addr} {A : Nat → Addr} {FD : Nat → FuncData}
/-- lists of numbers, apart from the deal -/
def LstsAt (H : Hp) (l c : Addr) (vs : List V) (fs : List (List Nat)) : Prop := vs.length = fs.length ∧ ∀ (i : Nat) (f : List Nat), fs[i]? = some f → ∃ q, vs[i]? = some (.ref q) ∧ H q = some (.lst (encI f)) ∧ q ≠ l ∧ q ≠ c
theorem LstsAt.xd {H H' : Hp} {l c : Addr} {vs : List V} {fs : List (List Nat)} (h : LstsAt H l c vs fs) (x : Xd l c H H') : LstsAt H' l c vs fs := ⟨h.1, fun i f hi => let ⟨q, h1, h2, h3, h4⟩ := h.2 i f hi; ⟨q, h1, x.lst h2 h3 h4, h3, h4⟩⟩
theorem LstsAt.ex {H H' : Hp} {l c : Addr} {vs : List V} {fs : List (List Nat)} (h : LstsAt H l c vs fs) (x : Ex H H') : LstsAt H' l c vs fs := ⟨h.1, fun i f hi => let ⟨q, h1, h2, h3, h4⟩ := h.2 i f hi; ⟨q, h1, x _ _ h2, h3, h4⟩⟩
def sp_L_deeds : Sp := fun vs H Q _ => ∃ (l c t : Addr) (n : Nat) (ws : List V) (fs : List (List Nat)), vs = [.ref l, .ref t] ∧ DealAt H l c ∧ H t = some (.lst ws) ∧ t ≠ l ∧ t ≠ c ∧ LstsAt H l c ws fs ∧ 0 < fs.length ∧ fs.length ≤ 8 ∧ (∀ f ∈ fs, Pm n f) ∧ 2 ≤ n ∧ n ≤ 49 ∧
  ∀ (us : List V) (ds : Ds) p H', Xd l c H H' → DealAt H' l c → p ≠ l → p ≠ c → H' p = some (.lst us) → DeedsAt H' us ds → Good n ds → ds.length = fs.length → (∀ p ∈ ds, p.1.length ≠ 6) → Q (.ref p) H'
theorem ok_L_deeds (T : Tx K mg C A FD) : (FnOk P w K mg base CX0 4 (A 57) (FD 57) ["_law_deal_here", "_law_turns"] sp_L_deeds) := by
  refine T.d_L_deeds.F.ok sc_L_deeds (fun vs H Q E h => by obtain ⟨l, c, t, n, ws, fs, rfl, hd, ht, t1, t2, hf, h0, h8, hpm, hn2, hn49, k⟩ := h; rfl) (fun cdv A0 outer s H vs Q E hr h => ?_)
  obtain ⟨l, c, t, n, ws, fs, rfl, hd, ht, t1, t2, hf, h0, h8, hpm, hn2, hn49, k⟩ := h
  have hu := hu_of hr
  have hu64 := hr.units
  have hu2 : _ + 65 < cLine := (fun {A : Around} {k} (hr : Room k A) => (by have := hr.un; omega : A.units + 65 < cLine)) hr
  refine ⟨_, (pss_cons (ps_set (i := 2) sc_L_deeds.nd rfl (.inr rfl) (pe_call (ok_L_turn T) (hr.mono (by decide)) (by rfl) T.d_L_turn.g T.d_L_turn.F.kp T.d_L_turn.b .nil pass0 (pa_cons (pv 0) (pa_cons (pe_callB (kcall_len K) (by rfl) T.z_len (by decide +kernel) (pa_cons (pe_ix (kix_list K) (pv 1) pe_int (fun _ _ => rfl)) pa_nil)) pa_nil))))
    (pss_one (ps_ret (pe_lc rfl sc_L_deeds.nd (kpi_zip K (by rfl) T.z_zip (pa_cons (pe_call (ok_L_names T) (hr.mono (by decide)) (by rfl) T.d_L_names.g T.d_L_names.F.kp T.d_L_names.b .nil pass0 (pa_cons (pv 0) (pa_cons (pe_callB (kcall_len K) (by rfl) T.z_len (by decide +kernel) (pa_cons (pv 1) pa_nil)) pa_nil))) (pa_cons (pv 1) pa_nil))) (blkOk_by (own := [("_law_name", 3), ("_law_one", 4)]) (N := N_L_deeds) (sc := defScope s_L_deeds) (by decide +kernel)) (fun _ _ _ _ _ => (kpg_tup K (n := 2) (by rfl) (pgs_cons (pg_name (i := 3) sc_L_deeds.nd rfl (by first | exact .inl rfl | exact .inr rfl)) (pgs_cons (pg_name (i := 4) sc_L_deeds.nd rfl (by first | exact .inl rfl | exact .inr rfl)) pgs_nil)))) (fun _ _ _ _ _ => pts_nil) (fun _ _ _ _ _ => (pe_tup (pa_cons (pv 3) (pa_cons (pe_call (ok_L_placed T) (hr.mono (by decide)) (by rfl) T.d_L_placed.g T.d_L_placed.F.kp T.d_L_placed.b .nil pass0 (pa_cons (pv 2) (pa_cons (pv 4) pa_nil))) pa_nil)))))))), ?_⟩
  clear hu hu64 hu2
  walk_at "wp"
  obtain ⟨f0, hf0⟩ : ∃ f, fs[0]? = some f := ⟨_, List.getElem?_eq_getElem h0⟩
  obtain ⟨q0, g1, g2, _⟩ := hf.2 0 f0 hf0
  refine r_ixL (n := 0) (stL ht) (atI_ok (n := 0) g1) ?_
  walk_at "wp"
  refine r_lenL (stL g2) ?_
  rw [encI_len, (hpm _ (List.mem_of_getElem? hf0)).len]
  walk_at "wp"
  refine ⟨l, c, n, rfl, hd, by omega, fun P pp H1 hpp p1 p2 x1 d1 h1 hP => ?_⟩
  walk_at "wp"
  have ht1 := x1.lst ht t1 t2
  refine r_lenL (stL ht1) ?_
  rw [hf.1]
  walk_at "wp"
  refine ⟨l, c, fs.length, rfl, d1, h8, fun N np H2 hNl hNd hNn hnp n1 n2 x2 d2 h2 => ?_⟩
  walk_at "wp"
  have ht2 := x2.lst ht1 t1 t2
  have hf2 := (hf.xd x1).xd x2
  have hpp2 := x2.lst h1 p1 p2
  refine ⟨np, t, _, _, rfl, stL h2, stL ht2, lc_I (n := fs.length) (fun i acc H3 => ∃ ds : Ds, DeedsAt H3 acc ds ∧ nms ds = N.take i ∧ (∀ p ∈ ds, Pm n p.2)) (wk_zip (by rw [List.length_map, hNl, hf.1, Nat.min_self]) (stL h2) (stL ht2)) (by omega) (fun _ _ => ⟨[], DeedsAt.nil _, by simp, fun p h => nm0 h⟩) (fun i acc H1 H2 e ⟨ds, h1, h2, h3⟩ => ⟨ds, h1.ei e, h2, h3⟩) (fun i acc x H3 H4 hi e hI y R NN hR hNN => ?_) fun D acc H3 hD e3 hDl hal hI => ?_⟩
  · obtain ⟨tt, u, v, rfl, hu, hv, htt, e2⟩ := yp_get y
    rw [List.getElem?_map, Option.map_eq_some_iff] at hu
    obtain ⟨z, hz, rfl⟩ := hu
    obtain ⟨ds, hds, hnm, hpmd⟩ := hI
    obtain ⟨q, g1, g2, _⟩ := hf2.2 i _ (List.getElem?_eq_getElem hi)
    rw [hv] at g1
    cases g1
    have pf := hpm _ (List.getElem_mem hi)
    refine g_two (stT htt) ?_
    refine ⟨rfl, ?_⟩
    walk_at "wp"
    refine ⟨pp, q, n, P, _, rfl, e _ _ hpp2, e _ _ g2, hP, pf, by omega, fun g gp H5 hg e5 h5 => ?_⟩
    walk_at "wp"
    refine al (by walk_at "sz") fun tp H6 htp e6 h6 => ?_
    refine hR _ H6 (e5.trans e6) ⟨ds ++ [(z, g)], (hds.ei (e5.trans e6).ei).snoc h6 (e6 _ _ h5), ?_, fun p hp => ?_⟩
    · rw [List.take_succ, hz]
      show List.map _ (ds ++ [(z, g)]) = _
      rw [List.map_append]
      have hnm' : List.map (fun p : Str × List Nat => p.1) ds = N.take i := hnm
      rw [hnm']
      rfl
    · rcases List.mem_append.mp hp with hp | hp
      · exact hpmd p hp
      · rw [List.mem_singleton] at hp
        subst hp
        exact hg
  · obtain ⟨ds, hds, hnm, hpmd⟩ := hI
    rw [← hNl, List.take_length] at hnm
    have hdl : ds.length = fs.length := by rw [← hNl, ← hnm, List.length_map]
    have hDn := d2.new hD
    refine k acc ds D H3 ((x1.trans x2).trans (Xd.of d2 e3)) (d2.ex' e3) hDn.1 hDn.2 hDl hds ⟨hn2, hn49, by omega, by omega, hpmd, fun p hp => (hNn _ (by rw [← hnm]; exact List.mem_map.mpr ⟨p, hp, rfl⟩)).1, by show (nms ds).Nodup; rw [hnm]; exact hNd⟩ hdl fun p hp => (hNn _ (by rw [← hnm]; exact List.mem_map.mpr ⟨p, hp, rfl⟩)).2

end
end Eo
namespace Eo
open PySem PyProof.Rows L2 L2.DX
/-! words of the walk: wp goes on where nothing is open; hl looks an object up; ex: what stood stands -/
local macro_rules | `(tactic| walk_at "hl") => `(tactic| first | assumption | exact PlT.sq (by assumption) | (refine stT ?_; walk_at "hl") | (refine stL ?_; walk_at "hl") | (refine Ex.at (by assumption) ?_; walk_at "hl") | (refine Mu.tup (by assumption) ?_; walk_at "hl") | (refine Ex.sqT (by assumption) ?_; walk_at "hl") | (refine Ex.sqL (by assumption) ?_; walk_at "hl") | (refine Ex.plT (by assumption) ?_; walk_at "hl") | (refine Mu.plT (by assumption) ?_; walk_at "hl"))
local macro_rules | `(tactic| walk_at "ex") => `(tactic| first | assumption | exact Ex.refl _ | (refine Ex.trans ?_ (by assumption); walk_at "ex") | (refine Ex.mu ?_ (by assumption) (by first | assumption | walk_at "fr"); walk_at "ex"))
local macro_rules | `(tactic| walk_at "fr") => `(tactic| first | assumption | (refine Ex.free (by assumption) ?_; walk_at "fr"))
local macro_rules | `(tactic| walk_at "rf") => `(tactic| with_unfolding_all rfl)
local macro_rules | `(tactic| walk_at "wp") => `(tactic| repeat (with_reducible first
  | refine q_seq ?_ | refine q_asg ?_ | refine q_ret ?_ | refine q_drop ?_ | refine q_if ?_ | refine q_next ?_ | refine q_par ?_ | refine q_par3 ?_ | refine q_retN ?_ | refine q_cont ?_ | refine q_brk ?_
  | refine e_var (by with_unfolding_all rfl) ?_ | refine e_c ?_ | refine e_op ?_ | refine e_cons ?_ | refine e_nil ?_ | refine e_test ?_ | refine e_B ?_ | refine e_yes ?_ | refine e_cb ?_ | refine e_call ?_ | refine e_then ?_ | refine e_tup ?_ | refine e_lst ?_
  | refine x_bl ?_ | refine i_T ?_ | refine i_F ?_ | refine x_two ?_ | refine x_three ?_
  | refine r_I0 ?_ | refine r_add ?_ | refine r_ip ?_ | refine g_nm ?_ | refine r_eqI ?_ | refine r_neI ?_ | refine r_eq (by with_unfolding_all rfl) ?_ | refine r_ne (by with_unfolding_all rfl) ?_
  | refine e_not ?_ | refine e_and ?_ | refine e_or ?_ | refine e_andV ?_ | refine e_orV ?_ | refine e_notV ?_ | refine e_ifx ?_ | refine e_idxF ?_ | refine e_idxI ?_ | refine e_sl ?_ | refine e_part ?_ | refine e_nopart ?_ | refine f_revA ?_ | refine e_lenSet ?_ | refine l_dcT ?_ | refine e_sadd ?_ | refine q_asgS ?_ | refine q_augS ?_ | refine e_tupRg ?_ | refine e_lstRg ?_ | refine e_rg1 ?_ | refine e_rg2 ?_ | refine e_dget ?_ | refine e_din ?_ | refine e_dnotin ?_ | refine e_dget2 ?_ | refine q_dput ?_ | refine e_un ?_ | refine e_chain ?_ | refine e_bm ?_ | refine e_bm0 ?_ | refine e_fld ?_ | refine q_asgT ?_
  | refine l_any ?_ | refine l_tup ?_ | refine l_list ?_ | refine l_rng1 ?_ | refine l_rng2 ?_ | refine l_str ?_ | refine l_enumL ?_ | refine l_enumT ?_ | refine l_zip ?_ | refine l_zipM ?_
  | refine f_tup ?_ | refine f_list ?_ | refine f_rng1 ?_ | refine f_enumL ?_ | refine f_enumT ?_))
local macro_rules | `(tactic| walk_at "sz") => `(tactic| first | decide | (refine small ?_; simp; done) | (refine small ?_; simp; omega) | (refine smallL ?_; simp; done) | (refine smallL ?_; simp; omega) | (simp; done) | (simp; omega))
section
variable {P : Program} {w : World} {K : PySem.W.Frag} {mg : Str → Option Value} {base : Heap} {C : Addr} {A : Nat → Addr} {FD : Nat → FuncData}
/-- what a shape gives -/
def Shp (l c : Addr) (H : Hp) (Q : VK) : Prop := ∀ (n : Nat) (fs : List (List Nat)) (ws : List V) (p : Addr) (H' : Hp), Xd l c H H' → DealAt H' l c → p ≠ l → p ≠ c → H' p = some (.lst ws) → LstsAt H' l c ws fs → 0 < fs.length → fs.length ≤ 3 → (∀ f ∈ fs, Pm n f) → 2 ≤ n → n ≤ 24 → Q (.ref p) H'
def sp_shape : Sp := fun vs H Q _ => ∃ (l c : Addr), vs = [.ref l] ∧ DealAt H l c ∧ Shp l c H Q
def pmB (n : Nat) (f : List Nat) : Bool := f.length == n && f.all (fun x => decide (x < n)) && decide f.Nodup
theorem pm_of {n : Nat} {f : List Nat} (h : pmB n f = true) : Pm n f := by
  unfold pmB at h
  simp only [Bool.and_eq_true, List.all_eq_true, decide_eq_true_eq, beq_iff_eq] at h
  exact ⟨h.1.1, h.1.2, h.2⟩
def wheelA (m w : Nat) : List Nat := (List.range (m * w)).map fun s => if s < m then (s + 1) % m else s
def wheelB (m w : Nat) : List Nat := (List.range (m * w)).map fun s => (s + m) % (m * w)
theorem ap_range {n i : Nat} {g : Nat → Nat} (h : i < n) : ap ((List.range n).map g) i = g i := by
  unfold ap
  rw [List.getD_eq_getElem?_getD, List.getElem?_map, List.getElem?_range h]
  rfl
theorem ok_L_wheels (T : Tx K mg C A FD) : (FnOk P w K mg base CX0 3 (A 52) (FD 52) ["_law_deal_here"] sp_shape) := by
  refine T.d_L_wheels.F.ok sc_L_wheels (fun vs H Q E h => by obtain ⟨l, c, rfl, hd, k⟩ := h; rfl) (fun cdv A0 outer s H vs Q E hr h => ?_)
  obtain ⟨l, c, rfl, hd, k⟩ := h
  have hu := hu_of hr
  have hu64 := hr.units
  have hu2 : _ + 65 < cLine := (fun {A : Around} {k} (hr : Room k A) => (by have := hr.un; omega : A.units + 65 < cLine)) hr
  refine ⟨_, (pss_cons (ps_asg (pe_call (ok_L_ofL T) (hr.mono (by decide)) (by rfl) T.d_L_of.g T.d_L_of.F.kp T.d_L_of.b .nil pass0 (pa_cons (pv 0) (pa_cons (pe_lst (pa_cons (pe_tup (pa_cons pe_int (pa_cons pe_int pa_nil))) (pa_cons (pe_tup (pa_cons pe_int (pa_cons pe_int pa_nil))) (pa_cons (pe_tup (pa_cons pe_int (pa_cons pe_int pa_nil))) (pa_cons (pe_tup (pa_cons pe_int (pa_cons pe_int pa_nil))) (pa_cons (pe_tup (pa_cons pe_int (pa_cons pe_int pa_nil))) (pa_cons (pe_tup (pa_cons pe_int (pa_cons pe_int pa_nil))) pa_nil))))))) pa_nil))) (kpg_tup K (n := 2) (by rfl) (pgs_cons (pg_name (i := 1) sc_L_wheels.nd rfl (by first | exact .inl rfl | exact .inr rfl)) (pgs_cons (pg_name (i := 2) sc_L_wheels.nd rfl (by first | exact .inl rfl | exact .inr rfl)) pgs_nil))))
    (pss_cons (ps_setLc (i := 3) rfl sc_L_wheels.nd rfl rfl (sw_true rfl rfl rfl (by decide +kernel)) (pi_range1 (by rfl) T.z_range (pa_cons (pe_op op_mul (pv 1) (pv 2)) pa_nil)) (blkOk_by (own := [("_law_state", 4)]) (N := N_L_wheels) (sc := defScope s_L_wheels) (by decide +kernel)) (fun _ _ _ _ _ => (pg_name (i := 4) sc_L_wheels.nd rfl (by first | exact .inl rfl | exact .inr rfl))) (fun _ _ _ _ _ => pts_nil) (fun _ _ _ _ _ => (pe_ifExp (pt_cmpR op_lt (pv 4) (pv 1) (nomark _)) (pe_op op_mod (pe_callTy kcall_int (by rfl) T.z_int (by decide +kernel) (pa_cons (pe_op op_add (pv 4) pe_int) pa_nil)) (pv 1)) (pv 4))))
    (pss_one (ps_ret (pe_lst (pa_cons (pv 3) (pa_cons (pe_lc rfl sc_L_wheels.nd (pi_range1 (by rfl) T.z_range (pa_cons (pe_op op_mul (pv 1) (pv 2)) pa_nil)) (blkOk_by (own := [("_law_state", 4)]) (N := N_L_wheels) (sc := defScope s_L_wheels) (by decide +kernel)) (fun _ _ _ _ _ => (pg_name (i := 4) sc_L_wheels.nd rfl (by first | exact .inl rfl | exact .inr rfl))) (fun _ _ _ _ _ => pts_nil) (fun _ _ _ _ _ => (pe_op op_mod (pe_callTy kcall_int (by rfl) T.z_int (by decide +kernel) (pa_cons (pe_op op_add (pv 4) (pv 1)) pa_nil)) (pe_op op_mul (pv 1) (pv 2))))) pa_nil))))))), ?_⟩
  clear hu hu64 hu2
  walk_at "wp"
  refine al (by walk_at "sz") fun q1 H1 hq1 e1 h1 => ?_
  walk_at "wp"
  refine al (by walk_at "sz") fun q2 H2 hq2 e2 h2 => ?_
  walk_at "wp"
  refine al (by walk_at "sz") fun q3 H3 hq3 e3 h3 => ?_
  walk_at "wp"
  refine al (by walk_at "sz") fun q4 H4 hq4 e4 h4 => ?_
  walk_at "wp"
  refine al (by walk_at "sz") fun q5 H5 hq5 e5 h5 => ?_
  walk_at "wp"
  refine al (by walk_at "sz") fun q6 H6 hq6 e6 h6 => ?_
  walk_at "wp"
  refine al (by walk_at "sz") fun s H7 hs e7 h7 => ?_
  walk_at "wp"
  have e6' := e6.trans e7
  have e5' := e5.trans e6'
  have e4' := e4.trans e5'
  have e3' := e3.trans e4'
  have e2' := e2.trans e3'
  have e07 := e1.trans e2'
  have d6 := hd.ex' ((((( e1.trans e2).trans e3).trans e4).trans e5).trans e6)
  have hsn := d6.new hs
  refine ⟨l, c, s, _, rfl, d6.ex' e7, h7, hsn.1, hsn.2, by simp, by simp, fun r v H8 hv x8 d8 => ?_⟩
  have key : ∃ (q : Addr) (m w : Nat), v = .ref q ∧ H8 q = some (.tup [.int (m : Nat), .int (w : Nat)]) ∧ (m, w) ∈ [(2, 2), (2, 3), (3, 2), (3, 3), (2, 4), (4, 2)] := by
    match r, hv with
    | 0, hv => cases hv; exact ⟨q1, 2, 2, rfl, x8.tup (e2' _ _ h1), by decide⟩
    | 1, hv => cases hv; exact ⟨q2, 2, 3, rfl, x8.tup (e3' _ _ h2), by decide⟩
    | 2, hv => cases hv; exact ⟨q3, 3, 2, rfl, x8.tup (e4' _ _ h3), by decide⟩
    | 3, hv => cases hv; exact ⟨q4, 3, 3, rfl, x8.tup (e5' _ _ h4), by decide⟩
    | 4, hv => cases hv; exact ⟨q5, 2, 4, rfl, x8.tup (e6' _ _ h5), by decide⟩
    | 5, hv => cases hv; exact ⟨q6, 4, 2, rfl, x8.tup (e7 _ _ h6), by decide⟩
    | r + 6, hv => simp at hv
  obtain ⟨q, m, w0, rfl, hq, hmw⟩ := key
  have good : ∀ p ∈ [(2, 2), (2, 3), (3, 2), (3, 3), (2, 4), (4, 2)], pmB (p.1 * p.2) (wheelA p.1 p.2) = true ∧ pmB (p.1 * p.2) (wheelB p.1 p.2) = true ∧ 2 ≤ p.1 ∧ 2 ≤ p.2 ∧ p.1 * p.2 ≤ 9 ∧ p.1 ≤ 4 := by decide
  obtain ⟨pa, pb, m2, w2, mw9, m4⟩ := good _ hmw
  simp only at pa pb m2 w2 mw9 m4
  have hmul : ((m : Int) * (w0 : Int)) = ((m * w0 : Nat) : Int) := by simp
  refine g_two (stT hq) ?_
  walk_at "wp"
  refine r_mulR (by omega) (by have : w0 ≤ 9 := by (have := Nat.le_mul_of_pos_left w0 (show 0 < m by omega)); omega
                               omega) ?_
  rw [hmul]
  refine ⟨((m * w0 : Nat) : Int), rfl, by omega, by omega, lc_V (encI (wheelA m w0)) wk_range (by have : ((m * w0 : Nat) : Int).toNat = m * w0 := Int.toNat_natCast _
                                                                                                  omega) (by rw [encI_len, (pm_of pa).len]; omega) (fun i x y HA HB hy e hx R hR => ?_) fun D H9 hD e9 hDl => ?_⟩
  · obtain ⟨rfl, rfl⟩ := y_rng hx
    obtain ⟨hi, rfl⟩ := encI_at hy
    have hi2 : i < m * w0 := by rw [(pm_of pa).len] at hi; exact hi
    refine ⟨rfl, ?_⟩
    walk_at "wp"
    unfold wheelA at hR
    rw [ap_range hi2] at hR
    refine i_d (fun h => ?_) (fun h => ?_)
    · walk_at "wp"
      refine ⟨_, rfl, ?_⟩
      walk_at "wp"
      refine r_mod (by omega) ?_
      rw [if_pos (by omega)] at hR
      have : ((i : Int) + 1) % (m : Int) = (((i + 1) % m : Nat) : Int) := by simp
      rw [this]
      exact hR _ (Ex.refl _)
    · walk_at "wp"
      rw [if_neg (by omega)] at hR
      exact hR _ (Ex.refl _)
  · walk_at "wp"
    have hw9 : w0 ≤ 9 := by
      have := Nat.le_mul_of_pos_left w0 (show 0 < m by omega)
      omega
    refine r_mulR (by omega) (by omega) ?_
    rw [hmul]
    refine ⟨((m * w0 : Nat) : Int), rfl, by omega, by omega, lc_V (encI (wheelB m w0)) wk_range (by have : ((m * w0 : Nat) : Int).toNat = m * w0 := Int.toNat_natCast _
                                                                                                    omega) (by rw [encI_len, (pm_of pb).len]; omega) (fun i x y HA HB hy e hx R hR => ?_) fun D2 HA hD2 eA hD2l => ?_⟩
    · obtain ⟨rfl, rfl⟩ := y_rng hx
      obtain ⟨hi, rfl⟩ := encI_at hy
      have hi2 : i < m * w0 := by rw [(pm_of pb).len] at hi; exact hi
      refine ⟨rfl, ?_⟩
      walk_at "wp"
      refine ⟨_, rfl, ?_⟩
      walk_at "wp"
      refine r_mulR (by omega) (by omega) ?_
      rw [hmul]
      refine r_mod (by omega) ?_
      unfold wheelB at hR
      rw [ap_range hi2] at hR
      have : ((i : Int) + (m : Int)) % ((m * w0 : Nat) : Int) = (((i + m) % (m * w0) : Nat) : Int) := by simp
      rw [this]
      exact hR _ (Ex.refl _)
    · walk_at "wp"
      refine al (by walk_at "sz") fun z HB hz eB hB => ?_
      have x9 := x8.trans (Xd.of d8 e9)
      have d9 := d8.ex' e9
      have dA := d9.ex' eA
      have hDn := d8.new hD
      have hD2n := d9.new hD2
      have hzn := dA.new hz
      refine k (m * w0) [wheelA m w0, wheelB m w0] _ z HB ((Xd.of hd e07).trans (x9.trans ((Xd.of d9 eA).trans (Xd.of dA eB)))) (dA.ex' eB) hzn.1 hzn.2 hB ⟨rfl, fun i f hi => ?_⟩ (by simp) (by simp) (fun f hf => ?_) (by have := Nat.mul_le_mul m2 w2; omega) (by omega)
      · match i, hi with
        | 0, hi => cases hi; exact ⟨D, rfl, eB _ _ (eA _ _ hDl), hDn.1, hDn.2⟩
        | 1, hi => cases hi; exact ⟨D2, rfl, eB _ _ hD2l, hD2n.1, hD2n.2⟩
        | i + 2, hi => simp at hi
      · rcases List.mem_cons.mp hf with rfl | hf
        · exact pm_of pa
        · rw [List.mem_singleton] at hf
          subst hf
          exact pm_of pb

end
end Eo
namespace Eo
open PySem PyProof.Rows L2 L2.DX
/-! words of the walk: wp goes on where nothing is open; hl looks an object up; ex: what stood stands -/
local macro_rules | `(tactic| walk_at "hl") => `(tactic| first | assumption | exact PlT.sq (by assumption) | (refine stT ?_; walk_at "hl") | (refine stL ?_; walk_at "hl") | (refine Ex.at (by assumption) ?_; walk_at "hl") | (refine Mu.tup (by assumption) ?_; walk_at "hl") | (refine Ex.sqT (by assumption) ?_; walk_at "hl") | (refine Ex.sqL (by assumption) ?_; walk_at "hl") | (refine Ex.plT (by assumption) ?_; walk_at "hl") | (refine Mu.plT (by assumption) ?_; walk_at "hl"))
local macro_rules | `(tactic| walk_at "ex") => `(tactic| first | assumption | exact Ex.refl _ | (refine Ex.trans ?_ (by assumption); walk_at "ex") | (refine Ex.mu ?_ (by assumption) (by first | assumption | walk_at "fr"); walk_at "ex"))
local macro_rules | `(tactic| walk_at "fr") => `(tactic| first | assumption | (refine Ex.free (by assumption) ?_; walk_at "fr"))
local macro_rules | `(tactic| walk_at "rf") => `(tactic| with_unfolding_all rfl)
local macro_rules | `(tactic| walk_at "wp") => `(tactic| repeat (with_reducible first
  | refine q_seq ?_ | refine q_asg ?_ | refine q_ret ?_ | refine q_drop ?_ | refine q_if ?_ | refine q_next ?_ | refine q_par ?_ | refine q_par3 ?_ | refine q_retN ?_ | refine q_cont ?_ | refine q_brk ?_
  | refine e_var (by with_unfolding_all rfl) ?_ | refine e_c ?_ | refine e_op ?_ | refine e_cons ?_ | refine e_nil ?_ | refine e_test ?_ | refine e_B ?_ | refine e_yes ?_ | refine e_cb ?_ | refine e_call ?_ | refine e_then ?_ | refine e_tup ?_ | refine e_lst ?_
  | refine x_bl ?_ | refine i_T ?_ | refine i_F ?_ | refine x_two ?_ | refine x_three ?_
  | refine r_I0 ?_ | refine r_add ?_ | refine r_ip ?_ | refine g_nm ?_ | refine r_eqI ?_ | refine r_neI ?_ | refine r_eq (by with_unfolding_all rfl) ?_ | refine r_ne (by with_unfolding_all rfl) ?_
  | refine e_not ?_ | refine e_and ?_ | refine e_or ?_ | refine e_andV ?_ | refine e_orV ?_ | refine e_notV ?_ | refine e_ifx ?_ | refine e_idxF ?_ | refine e_idxI ?_ | refine e_sl ?_ | refine e_part ?_ | refine e_nopart ?_ | refine f_revA ?_ | refine e_lenSet ?_ | refine l_dcT ?_ | refine e_sadd ?_ | refine q_asgS ?_ | refine q_augS ?_ | refine e_tupRg ?_ | refine e_lstRg ?_ | refine e_rg1 ?_ | refine e_rg2 ?_ | refine e_dget ?_ | refine e_din ?_ | refine e_dnotin ?_ | refine e_dget2 ?_ | refine q_dput ?_ | refine e_un ?_ | refine e_chain ?_ | refine e_bm ?_ | refine e_bm0 ?_ | refine e_fld ?_ | refine q_asgT ?_
  | refine l_any ?_ | refine l_tup ?_ | refine l_list ?_ | refine l_rng1 ?_ | refine l_rng2 ?_ | refine l_str ?_ | refine l_enumL ?_ | refine l_enumT ?_ | refine l_zip ?_ | refine l_zipM ?_
  | refine f_tup ?_ | refine f_list ?_ | refine f_rng1 ?_ | refine f_enumL ?_ | refine f_enumT ?_))
local macro_rules | `(tactic| walk_at "sz") => `(tactic| first | decide | (refine small ?_; simp; done) | (refine small ?_; simp; omega) | (refine smallL ?_; simp; done) | (refine smallL ?_; simp; omega) | (simp; done) | (simp; omega))
section
variable {P : Program} {w : World} {K : PySem.W.Frag} {mg : Str → Option Value} {base : Heap} {C : Addr} {A : Nat → Addr} {FD : Nat → FuncData}
/-- as LstsAt, apart from the list r too -/
def LR (H : Hp) (l c r : Addr) (vs : List V) (fs : List (List Nat)) : Prop := vs.length = fs.length ∧ ∀ (i : Nat) (f : List Nat), fs[i]? = some f → ∃ q, vs[i]? = some (.ref q) ∧ H q = some (.lst (encI f)) ∧ q ≠ l ∧ q ≠ c ∧ q ≠ r
theorem LR.keep {H H' : Hp} {l c r : Addr} {vs : List V} {fs : List (List Nat)} (h : LR H l c r vs fs) (e : ∀ b o, b ≠ l → b ≠ c → b ≠ r → H b = some o → H' b = some o) : LR H' l c r vs fs := ⟨h.1, fun i f hi => let ⟨q, h1, h2, h3, h4, h5⟩ := h.2 i f hi; ⟨q, h1, e _ _ h3 h4 h5 h2, h3, h4, h5⟩⟩
theorem LR.xd {H H' : Hp} {l c r : Addr} {vs : List V} {fs : List (List Nat)} (h : LR H l c r vs fs) (x : Xd l c H H') : LR H' l c r vs fs := h.keep fun b o h1 h2 _ h3 => x.rest b o h1 h2 h3
theorem LR.ex {H H' : Hp} {l c r : Addr} {vs : List V} {fs : List (List Nat)} (h : LR H l c r vs fs) (x : Ex H H') : LR H' l c r vs fs := h.keep fun b o _ _ _ h3 => x b o h3
theorem LR.mu {H H' : Hp} {l c r : Addr} {vs : List V} {fs : List (List Nat)} (h : LR H l c r vs fs) (m : Mu r H H') : LR H' l c r vs fs := h.keep fun b o _ _ h3 h4 => m.rest b o h3 h4
theorem LR.nil (H : Hp) (l c r : Addr) : LR H l c r [] [] := ⟨rfl, fun i f e => by simp at e⟩
theorem LR.snoc {H : Hp} {l c r q : Addr} {vs : List V} {fs : List (List Nat)} {f : List Nat} (h : LR H l c r vs fs) (h1 : H q = some (.lst (encI f))) (h2 : q ≠ l) (h3 : q ≠ c) (h4 : q ≠ r) : LR H l c r (vs ++ [.ref q]) (fs ++ [f]) := by
  refine ⟨by rw [List.length_append, List.length_append, h.1]; rfl, fun i g e => ?_⟩
  rcases snoc_get e with ⟨hi, e'⟩ | ⟨rfl, e'⟩
  · obtain ⟨a, k1, k2⟩ := h.2 i g e'
    exact ⟨a, by rw [List.getElem?_append_left (by rw [h.1]; exact hi)]; exact k1, k2⟩
  · cases e'
    exact ⟨q, by rw [← h.1]; exact snoc_last _ _, h1, h2, h3, h4⟩
theorem LR.lsts {H : Hp} {l c r : Addr} {vs : List V} {fs : List (List Nat)} (h : LR H l c r vs fs) : LstsAt H l c vs fs := ⟨h.1, fun i f hi => let ⟨q, h1, h2, h3, h4, _⟩ := h.2 i f hi; ⟨q, h1, h2, h3, h4⟩⟩
theorem DealAt.mu {H H' : Hp} {l c r : Addr} (d : DealAt H l c) (m : Mu r H H') (h1 : r ≠ l) (h2 : r ≠ c) : DealAt H' l c := by
  obtain ⟨cs, mx, q1, q2, q3⟩ := d.ex
  exact ⟨⟨cs, mx, m.rest l _ (Ne.symm h1) q1, m.rest c _ (Ne.symm h2) q2, q3⟩, d.ne⟩
def hourF (m a b : Nat) : List Nat := (List.range m).map fun x => (a * x + b) % m
theorem hour_pm : ∀ m, m < 10 → ∀ a, a < 10 → ∀ b, b < 10 → 3 ≤ m → Nat.gcd a m = 1 → pmB m (hourF m a b) = true := by decide +kernel
theorem ok_L_hours (T : Tx K mg C A FD) : (FnOk P w K mg base CX0 3 (A 49) (FD 49) ["_law_deal_here"] sp_shape) := by
  refine T.d_L_hours.F.ok sc_L_hours (fun vs H Q E h => by obtain ⟨l, c, rfl, hd, k⟩ := h; rfl) (fun cdv A0 outer s H vs Q E hr h => ?_)
  obtain ⟨l, c, rfl, hd, k⟩ := h
  have hu := hu_of hr
  have hu64 := hr.units
  have hu2 : _ + 65 < cLine := (fun {A : Around} {k} (hr : Room k A) => (by have := hr.un; omega : A.units + 65 < cLine)) hr
  refine ⟨_, (pss_cons (ps_set (i := 1) sc_L_hours.nd rfl (.inr rfl) (pe_call (ok_L_ofL T) (hr.mono (by decide)) (by rfl) T.d_L_of.g T.d_L_of.F.kp T.d_L_of.b .nil pass0 (pa_cons (pv 0) (pa_cons (pe_lst (pa_cons pe_int (pa_cons pe_int (pa_cons pe_int (pa_cons pe_int (pa_cons pe_int (pa_cons pe_int (pa_cons pe_int pa_nil)))))))) pa_nil))))
    (pss_cons (ps_par (i := 2) (j := 3) rfl sc_L_hours.nd rfl rfl (by decide) rfl rfl (pa_cons (pe_lc rfl sc_L_hours.nd (pi_range2 (by rfl) T.z_range (pa_cons pe_int (pa_cons (pv 1) pa_nil))) (blkOk_by (own := [("_law_a", 4)]) (N := N_L_hours) (sc := defScope s_L_hours) (by decide +kernel)) (fun _ _ _ _ _ => (pg_name (i := 4) sc_L_hours.nd rfl (by first | exact .inl rfl | exact .inr rfl))) (fun _ _ _ _ _ => (pts_one (pt_cmpR op_eq (pe_call (ok_L_common T) (hr.mono (by decide)) (by rfl) T.d_L_common.g T.d_L_common.F.kp T.d_L_common.b .nil pass0 (pa_cons (pv 4) (pa_cons (pv 1) pa_nil))) pe_int (nomark _)))) (fun _ _ _ _ _ => (pv 4))) (pa_cons (pe_lst pa_nil) pa_nil)) rfl)
    (pss_cons (ps_for PassesOwn.never rfl (pi_range1 (by rfl) T.z_range (pa_cons (pe_op op_add pe_int (pe_call (ok_L_any T) (hr.mono (by decide)) (by rfl) T.d_L_any.g T.d_L_any.F.kp T.d_L_any.b .nil pass0 (pa_cons (pv 0) (pa_cons pe_int pa_nil)))) pa_nil)) (pg_name (i := 5) sc_L_hours.nd rfl (by first | exact .inl rfl | exact .inr rfl)) (pss_cons (ps_asg (pe_tup (pa_cons (pe_call (ok_L_ofL T) (hr.mono (by decide)) (by rfl) T.d_L_of.g T.d_L_of.F.kp T.d_L_of.b .nil pass0 (pa_cons (pv 0) (pa_cons (pv 2) pa_nil))) (pa_cons (pe_call (ok_L_any T) (hr.mono (by decide)) (by rfl) T.d_L_any.g T.d_L_any.F.kp T.d_L_any.b .nil pass0 (pa_cons (pv 0) (pa_cons (pv 1) pa_nil))) pa_nil))) (kpg_tup K (n := 2) (by rfl) (pgs_cons (pg_name (i := 4) sc_L_hours.nd rfl (by first | exact .inl rfl | exact .inr rfl)) (pgs_cons (pg_name (i := 6) sc_L_hours.nd rfl (by first | exact .inl rfl | exact .inr rfl)) pgs_nil))))
      (pss_one (ps_expr (kpe_bm K PySem.F.plainAttrs_list PySem.F.slot_list_append PySem.F.type_list_append mt_append (pv 3) (pa_cons (pe_lc rfl sc_L_hours.nd (pi_range1 (by rfl) T.z_range (pa_cons (pv 1) pa_nil)) (blkOk_by (own := [("_law_x", 7)]) (N := N_L_hours) (sc := defScope s_L_hours) (by decide +kernel)) (fun _ _ _ _ _ => (pg_name (i := 7) sc_L_hours.nd rfl (by first | exact .inl rfl | exact .inr rfl))) (fun _ _ _ _ _ => pts_nil) (fun _ _ _ _ _ => (pe_op op_mod (pe_callTy kcall_int (by rfl) T.z_int (by decide +kernel) (pa_cons (pe_op op_add (pe_op op_mul (pv 4) (pv 7)) (pv 6)) pa_nil)) (pv 1)))) pa_nil))))))
    (pss_one (ps_ret (pv 3)))))), ?_⟩
  clear hu hu64 hu2
  walk_at "wp"
  refine al (by walk_at "sz") fun s H1 hs e1 h1 => ?_
  walk_at "wp"
  have hsn := hd.new hs
  refine ⟨l, c, s, _, rfl, hd.ex' e1, h1, hsn.1, hsn.2, by simp, by simp, fun r v H2 hv x2 d2 => ?_⟩
  have key : ∃ m : Nat, v = .int (m : Nat) ∧ 3 ≤ m ∧ m ≤ 9 := by
    match r, hv with
    | 0, hv => cases hv; exact ⟨3, rfl, by decide, by decide⟩
    | 1, hv => cases hv; exact ⟨4, rfl, by decide, by decide⟩
    | 2, hv => cases hv; exact ⟨5, rfl, by decide, by decide⟩
    | 3, hv => cases hv; exact ⟨6, rfl, by decide, by decide⟩
    | 4, hv => cases hv; exact ⟨7, rfl, by decide, by decide⟩
    | 5, hv => cases hv; exact ⟨8, rfl, by decide, by decide⟩
    | 6, hv => cases hv; exact ⟨9, rfl, by decide, by decide⟩
    | r + 7, hv => simp at hv
  obtain ⟨m, rfl, m3, m9⟩ := key
  walk_at "wp"
  refine ⟨1, (m : Nat), rfl, ⟨by decide, by decide, by omega, by omega⟩, lc_I (fun i acc _ => ∃ us : List Nat, acc = encI us ∧ us.length ≤ i ∧ (∀ u ∈ us, u < m ∧ Nat.gcd u m = 1) ∧ (0 < i → 0 < us.length)) wk_range (by omega) (fun _ _ => ⟨[], rfl, Nat.le_refl _, fun u h => nm0 h, fun h => by omega⟩) (fun _ _ _ _ _ h => h) (fun i acc x H4 H5 hi e hI y P N hP hN => ?_) fun D acc H3 hD e3 hDl hal hI => ?_⟩
  · obtain ⟨us, rfl, hul, hu, hpos⟩ := hI
    have y2 : x = V.int ((1 + i : Nat) : Int) := by rw [y.2]; simp
    obtain ⟨rfl, _⟩ := y
    subst y2
    have hi2 : i < m - 1 := by omega
    refine ⟨rfl, ?_⟩
    walk_at "wp"
    refine ⟨1 + i, m, rfl, by omega, ?_⟩
    walk_at "wp"
    have h1i : ((1 : Int) + ((i : Nat) : Int)) = ((1 + i : Nat) : Int) := by simp
    refine i_d (fun h => ?_) (fun h => ?_)
    · walk_at "wp"
      refine hP _ _ (Ex.refl _) ⟨us ++ [1 + i], encI_snoc _ _, by rw [List.length_append, List.length_singleton]; omega, fun u hu2 => ?_, fun _ => by rw [List.length_append, List.length_singleton]; omega⟩
      rcases List.mem_append.mp hu2 with h2 | h2
      · exact hu u h2
      · rw [List.mem_singleton] at h2
        subst h2
        exact ⟨by omega, by omega⟩
    · refine hN _ (Ex.refl _) ⟨us, rfl, by omega, hu, fun _ => ?_⟩
      by_cases h0 : 0 < i
      · exact hpos h0
      · have : i = 0 := by omega
        subst this
        simp at h
  · obtain ⟨us, rfl, hul, hu, hpos⟩ := hI
    have hus0 : 0 < us.length := hpos (by omega)
    walk_at "wp"
    refine al (by walk_at "sz") fun r H4 hr e4 h4 => ?_
    walk_at "wp"
    have d3 := d2.ex' e3
    have d4 := d3.ex' e4
    have hDn := d2.new hD
    have hrn := d3.new hr
    have hDr : D ≠ r := ne_of_none hDl hr
    have hrH : H r = none := e1.free (x2.free d2 (e3.free hr))
    have x4 : Xd l c H H4 := ((Xd.of hd e1).trans x2).trans (Xd.of d2 (e3.trans e4))
    refine ⟨l, c, 2, rfl, d4, by decide, by decide, fun v H5 hv x5 d5 => ?_⟩
    walk_at "wp"
    refine ⟨((1 + v : Nat) : Int), by simp, by omega, by omega, fr_W walk_range (fun i σ H6 => Xd l c H H6 ∧ DealAt H6 l c ∧ ∃ (x4 x5 x6 x7 : Option V) (vs : List V) (fs : List (List Nat)), σ = [some (.ref l), some (.int (m : Nat)), some (.ref D), some (.ref r), x4, x5, x6, x7] ∧ H6 D = some (.lst (encI us)) ∧ H6 r = some (.lst vs) ∧ LR H6 l c r vs fs ∧ fs.length = i ∧ ∀ f ∈ fs, Pm m f)
      ⟨x4.trans x5, d5, _, _, _, _, [], [], rfl, x5.lst (e4 _ _ hDl) hDn.1 hDn.2, x5.lst h4 hrn.1 hrn.2, LR.nil _ _ _ _, rfl, fun f h => nm0 h⟩ (fun _ _ _ _ _ => trivial) (fun i x σ H6 H7 hi h y => ?_) (fun σ H6 h => ?_)⟩
    · obtain ⟨x6, d6, o4, o5, o6, o7, vs, fs, rfl, hD6, hr6, hLR, hfl, hfp⟩ := h
      obtain ⟨rfl, rfl⟩ := y_rng y
      have hi2 : i < 1 + v := by
        have h := hi
        omega
      walk_at "wp"
      refine ⟨l, c, D, _, rfl, d6, hD6, hDn.1, hDn.2, by rw [encI_len]; exact hus0, by rw [encI_len]; omega, fun u w0 H8 hu8 x8 d8 => ?_⟩
      obtain ⟨hul2, rfl⟩ := encI_at hu8
      walk_at "wp"
      refine ⟨l, c, m, rfl, d8, by omega, by omega, fun b H9 hb x9 d9 => ?_⟩
      walk_at "wp"
      refine al (by walk_at "sz") fun tt HA htt eA hA => ?_
      refine g_two (stT hA) ?_
      walk_at "wp"
      have x89 := (x8.trans x9).trans (Xd.of d9 eA)
      have dA := d9.ex' eA
      have hrA := x89.lst hr6 hrn.1 hrn.2
      have hg := hu _ (ap_mem hul2)
      have pm : Pm m (hourF m (ap us u) b) := pm_of (hour_pm m (by omega) (ap us u) (by omega) b (by omega) m3 hg.2)
      refine ty_list (stL hrA) ?_
      walk_at "wp"
      refine ⟨(m : Nat), rfl, by omega, by omega, lc_V (encI (hourF m (ap us u) b)) wk_range (by omega) (by rw [encI_len, pm.len]; omega) (fun i x y HB HC hy e hx R hR => ?_) fun D2 HB hD2 eB hBl => ?_⟩
      · obtain ⟨rfl, rfl⟩ := y_rng hx
        obtain ⟨hi, rfl⟩ := encI_at hy
        rw [pm.len] at hi
        refine ⟨rfl, ?_⟩
        walk_at "wp"
        refine r_mulR (by omega) (by omega) ?_
        walk_at "wp"
        refine ⟨_, rfl, ?_⟩
        walk_at "wp"
        refine r_mod (by omega) ?_
        unfold hourF at hR
        rw [ap_range hi] at hR
        have : (((ap us u : Nat) : Int) * (i : Int) + (b : Int)) % (m : Int) = (((ap us u * i + b) % m : Nat) : Int) := by simp
        rw [this]
        exact hR _ (Ex.refl _)
      · walk_at "wp"
        have hrB := eB _ _ hrA
        refine r_app hrB (smallL (by rw [hLR.1]; omega)) fun HC mC hC => ?_
        have hD2n := dA.new hD2
        have hD2r : D2 ≠ r := fun e0 => by rw [e0, hrA] at hD2; cases hD2
        have dB := dA.ex' eB
        have x6B := (x6.trans x89).trans (Xd.of dA eB)
        refine ⟨x6B.mu mC hrH, dB.mu mC hrn.1 hrn.2, _, _, _, _, _, fs ++ [hourF m (ap us u) b], rfl, mC.rest D _ hDr (eB _ _ (x89.lst hD6 hDn.1 hDn.2)), hC, (((hLR.xd x89).ex eB).snoc hBl hD2n.1 hD2n.2 hD2r).mu mC, by rw [List.length_append, hfl]; rfl, fun f hf => ?_⟩
        rcases List.mem_append.mp hf with hf | hf
        · exact hfp f hf
        · rw [List.mem_singleton] at hf
          subst hf
          exact pm
    · obtain ⟨x6, d6, o4, o5, o6, o7, vs, fs, rfl, hD6, hr6, hLR, hfl, hfp⟩ := h
      walk_at "wp"
      have hfl2 : fs.length = 1 + v := by
        have h := hfl
        omega
      exact k m fs vs r H6 x6 d6 hrn.1 hrn.2 hr6 hLR.lsts (by omega) (by omega) hfp (by omega) (by omega)

end
end Eo
namespace Eo
open PySem PyProof.Rows L2 L2.DX
/-! words of the walk: wp goes on where nothing is open; hl looks an object up; ex: what stood stands -/
local macro_rules | `(tactic| walk_at "hl") => `(tactic| first | assumption | exact PlT.sq (by assumption) | (refine stT ?_; walk_at "hl") | (refine stL ?_; walk_at "hl") | (refine Ex.at (by assumption) ?_; walk_at "hl") | (refine Mu.tup (by assumption) ?_; walk_at "hl") | (refine Ex.sqT (by assumption) ?_; walk_at "hl") | (refine Ex.sqL (by assumption) ?_; walk_at "hl") | (refine Ex.plT (by assumption) ?_; walk_at "hl") | (refine Mu.plT (by assumption) ?_; walk_at "hl"))
local macro_rules | `(tactic| walk_at "ex") => `(tactic| first | assumption | exact Ex.refl _ | (refine Ex.trans ?_ (by assumption); walk_at "ex") | (refine Ex.mu ?_ (by assumption) (by first | assumption | walk_at "fr"); walk_at "ex"))
local macro_rules | `(tactic| walk_at "fr") => `(tactic| first | assumption | (refine Ex.free (by assumption) ?_; walk_at "fr"))
local macro_rules | `(tactic| walk_at "rf") => `(tactic| with_unfolding_all rfl)
local macro_rules | `(tactic| walk_at "wp") => `(tactic| repeat (with_reducible first
  | refine q_seq ?_ | refine q_asg ?_ | refine q_ret ?_ | refine q_drop ?_ | refine q_if ?_ | refine q_next ?_ | refine q_par ?_ | refine q_par3 ?_ | refine q_retN ?_ | refine q_cont ?_ | refine q_brk ?_
  | refine e_var (by with_unfolding_all rfl) ?_ | refine e_c ?_ | refine e_op ?_ | refine e_cons ?_ | refine e_nil ?_ | refine e_test ?_ | refine e_B ?_ | refine e_yes ?_ | refine e_cb ?_ | refine e_call ?_ | refine e_then ?_ | refine e_tup ?_ | refine e_lst ?_
  | refine x_bl ?_ | refine i_T ?_ | refine i_F ?_ | refine x_two ?_ | refine x_three ?_
  | refine r_I0 ?_ | refine r_add ?_ | refine r_ip ?_ | refine g_nm ?_ | refine r_eqI ?_ | refine r_neI ?_ | refine r_eq (by with_unfolding_all rfl) ?_ | refine r_ne (by with_unfolding_all rfl) ?_
  | refine e_not ?_ | refine e_and ?_ | refine e_or ?_ | refine e_andV ?_ | refine e_orV ?_ | refine e_notV ?_ | refine e_ifx ?_ | refine e_idxF ?_ | refine e_idxI ?_ | refine e_sl ?_ | refine e_part ?_ | refine e_nopart ?_ | refine f_revA ?_ | refine e_lenSet ?_ | refine l_dcT ?_ | refine e_sadd ?_ | refine q_asgS ?_ | refine q_augS ?_ | refine e_tupRg ?_ | refine e_lstRg ?_ | refine e_rg1 ?_ | refine e_rg2 ?_ | refine e_dget ?_ | refine e_din ?_ | refine e_dnotin ?_ | refine e_dget2 ?_ | refine q_dput ?_ | refine e_un ?_ | refine e_chain ?_ | refine e_bm ?_ | refine e_bm0 ?_ | refine e_fld ?_ | refine q_asgT ?_
  | refine l_any ?_ | refine l_tup ?_ | refine l_list ?_ | refine l_rng1 ?_ | refine l_rng2 ?_ | refine l_str ?_ | refine l_enumL ?_ | refine l_enumT ?_ | refine l_zip ?_ | refine l_zipM ?_
  | refine f_tup ?_ | refine f_list ?_ | refine f_rng1 ?_ | refine f_enumL ?_ | refine f_enumT ?_))
local macro_rules | `(tactic| walk_at "sz") => `(tactic| first | decide | (refine small ?_; simp; done) | (refine small ?_; simp; omega) | (refine smallL ?_; simp; done) | (refine smallL ?_; simp; omega) | (simp; done) | (simp; omega))
section
variable {P : Program} {w : World} {K : PySem.W.Frag} {mg : Str → Option Value} {base : Heap} {C : Addr} {A : Nat → Addr} {FD : Nat → FuncData}
def shA (w h : Nat) : List Nat := (List.range (w * h)).map fun i => (i / h + 1) % w * h + i % h
def shB (w h : Nat) : List Nat := (List.range (w * h)).map fun i => i / h * h + (i % h + i / h) % h
def shC (w h : Nat) : List Nat := (List.range (w * h)).map fun i => i / h * h + (i % h + 1) % h
theorem sh_pm : ∀ w, w < 4 → ∀ h, h < 5 → 2 ≤ w → 2 ≤ h → pmB (w * h) (shA w h) = true ∧ pmB (w * h) (shB w h) = true ∧ pmB (w * h) (shC w h) = true := by decide +kernel
theorem ok_L_sheared (T : Tx K mg C A FD) : (FnOk P w K mg base CX0 2 (A 50) (FD 50) ["_law_deal_here"] sp_shape) := by
  refine T.d_L_sheared.F.ok sc_L_sheared (fun vs H Q E h => by obtain ⟨l, c, rfl, hd, k⟩ := h; rfl) (fun cdv A0 outer s H vs Q E hr h => ?_)
  obtain ⟨l, c, rfl, hd, k⟩ := h
  have hu := hu_of hr
  have hu64 := hr.units
  have hu2 : _ + 65 < cLine := (fun {A : Around} {k} (hr : Room k A) => (by have := hr.un; omega : A.units + 65 < cLine)) hr
  refine ⟨_, (pss_cons (ps_asg (pe_tup (pa_cons (pe_op op_add pe_int (pe_call (ok_L_any T) (hr.mono (by decide)) (by rfl) T.d_L_any.g T.d_L_any.F.kp T.d_L_any.b .nil pass0 (pa_cons (pv 0) (pa_cons pe_int pa_nil)))) (pa_cons (pe_op op_add pe_int (pe_call (ok_L_any T) (hr.mono (by decide)) (by rfl) T.d_L_any.g T.d_L_any.F.kp T.d_L_any.b .nil pass0 (pa_cons (pv 0) (pa_cons pe_int pa_nil)))) pa_nil))) (kpg_tup K (n := 2) (by rfl) (pgs_cons (pg_name (i := 1) sc_L_sheared.nd rfl (by first | exact .inl rfl | exact .inr rfl)) (pgs_cons (pg_name (i := 2) sc_L_sheared.nd rfl (by first | exact .inl rfl | exact .inr rfl)) pgs_nil))))
    (pss_cons (ps_setLc (i := 3) rfl sc_L_sheared.nd rfl rfl (sw_true rfl rfl rfl (by decide +kernel)) (pi_range1 (by rfl) T.z_range (pa_cons (pe_op op_mul (pv 1) (pv 2)) pa_nil)) (blkOk_by (own := [("_law_number", 5)]) (N := N_L_sheared) (sc := defScope s_L_sheared) (by decide +kernel)) (fun _ _ _ _ _ => (pg_name (i := 5) sc_L_sheared.nd rfl (by first | exact .inl rfl | exact .inr rfl))) (fun _ _ _ _ _ => pts_nil) (fun _ _ _ _ _ => (pe_tup (pa_cons (pe_op op_fdiv (pv 5) (pv 2)) (pa_cons (pe_op op_mod (pe_callTy kcall_int (by rfl) T.z_int (by decide +kernel) (pa_cons (pv 5) pa_nil)) (pv 2)) pa_nil)))))
    (pss_cons (ps_set (i := 4) sc_L_sheared.nd rfl (.inl rfl) (pe_lst (pa_cons (pe_lc rfl sc_L_sheared.nd (kpi_list K (pv 3)) (blkOk_by (own := [("_law_x", 6), ("_law_y", 7)]) (N := N_L_sheared) (sc := defScope s_L_sheared) (by decide +kernel)) (fun _ _ _ _ _ => (kpg_tup K (n := 2) (by rfl) (pgs_cons (pg_name (i := 6) sc_L_sheared.nd rfl (by first | exact .inl rfl | exact .inr rfl)) (pgs_cons (pg_name (i := 7) sc_L_sheared.nd rfl (by first | exact .inl rfl | exact .inr rfl)) pgs_nil)))) (fun _ _ _ _ _ => pts_nil) (fun _ _ _ _ _ => (pe_op op_add (pe_op op_mul (pe_op op_mod (pe_callTy kcall_int (by rfl) T.z_int (by decide +kernel) (pa_cons (pe_op op_add (pv 6) pe_int) pa_nil)) (pv 1)) (pv 2)) (pv 7)))) (pa_cons (pe_lc rfl sc_L_sheared.nd (kpi_list K (pv 3)) (blkOk_by (own := [("_law_x", 6), ("_law_y", 7)]) (N := N_L_sheared) (sc := defScope s_L_sheared) (by decide +kernel)) (fun _ _ _ _ _ => (kpg_tup K (n := 2) (by rfl) (pgs_cons (pg_name (i := 6) sc_L_sheared.nd rfl (by first | exact .inl rfl | exact .inr rfl)) (pgs_cons (pg_name (i := 7) sc_L_sheared.nd rfl (by first | exact .inl rfl | exact .inr rfl)) pgs_nil)))) (fun _ _ _ _ _ => pts_nil) (fun _ _ _ _ _ => (pe_op op_add (pe_op op_mul (pv 6) (pv 2)) (pe_op op_mod (pe_callTy kcall_int (by rfl) T.z_int (by decide +kernel) (pa_cons (pe_op op_add (pv 7) (pv 6)) pa_nil)) (pv 2))))) pa_nil))))
    (pss_cons (ps_if (pt_cmpR op_eq (pe_call (ok_L_any T) (hr.mono (by decide)) (by rfl) T.d_L_any.g T.d_L_any.F.kp T.d_L_any.b .nil pass0 (pa_cons (pv 0) (pa_cons pe_int pa_nil))) pe_int (nomark _)) (pss_one (ps_expr (kpe_bm K PySem.F.plainAttrs_list PySem.F.slot_list_append PySem.F.type_list_append mt_append (pv 4) (pa_cons (pe_lc rfl sc_L_sheared.nd (kpi_list K (pv 3)) (blkOk_by (own := [("_law_x", 6), ("_law_y", 7)]) (N := N_L_sheared) (sc := defScope s_L_sheared) (by decide +kernel)) (fun _ _ _ _ _ => (kpg_tup K (n := 2) (by rfl) (pgs_cons (pg_name (i := 6) sc_L_sheared.nd rfl (by first | exact .inl rfl | exact .inr rfl)) (pgs_cons (pg_name (i := 7) sc_L_sheared.nd rfl (by first | exact .inl rfl | exact .inr rfl)) pgs_nil)))) (fun _ _ _ _ _ => pts_nil) (fun _ _ _ _ _ => (pe_op op_add (pe_op op_mul (pv 6) (pv 2)) (pe_op op_mod (pe_callTy kcall_int (by rfl) T.z_int (by decide +kernel) (pa_cons (pe_op op_add (pv 7) pe_int) pa_nil)) (pv 2))))) pa_nil)))) pss_nil)
    (pss_one (ps_ret (pv 4))))))), ?_⟩
  clear hu hu64 hu2
  walk_at "wp"
  refine ⟨l, c, 2, rfl, hd, by decide, by decide, fun v1 H1 hv1 x1 d1 => ?_⟩
  walk_at "wp"
  refine ⟨l, c, 3, rfl, d1, by decide, by decide, fun v2 H2 hv2 x2 d2 => ?_⟩
  walk_at "wp"
  refine al (by walk_at "sz") fun tt H3 htt e3 h3 => ?_
  refine g_two (stT h3) ?_
  walk_at "wp"
  have d3 := d2.ex' e3
  have x03 : Xd l c H H3 := (x1.trans x2).trans (Xd.of d2 e3)
  obtain ⟨w0, hw0⟩ : ∃ w0 : Nat, w0 = 2 + v1 := ⟨_, rfl⟩
  obtain ⟨h0, hh0⟩ : ∃ h0 : Nat, h0 = 2 + v2 := ⟨_, rfl⟩
  have ew : ((2 : Int) + (v1 : Int)) = ((w0 : Nat) : Int) := by omega
  have eh : ((2 : Int) + (v2 : Int)) = ((h0 : Nat) : Int) := by omega
  simp only [ew, eh]
  have hmul : ((w0 : Int) * (h0 : Int)) = ((w0 * h0 : Nat) : Int) := by simp
  obtain ⟨pa, pb, pc⟩ := sh_pm w0 (by omega) h0 (by omega) (by omega) (by omega)
  have pa := pm_of pa
  have pb := pm_of pb
  have pc := pm_of pc
  have wh12 : w0 * h0 ≤ 12 := Nat.mul_le_mul (show w0 ≤ 3 by omega) (show h0 ≤ 4 by omega)
  have wh4 : 4 ≤ w0 * h0 := Nat.mul_le_mul (show 2 ≤ w0 by omega) (show 2 ≤ h0 by omega)
  refine r_mulR (by omega) (by omega) ?_
  rw [hmul]
  refine ⟨((w0 * h0 : Nat) : Int), rfl, by omega, by omega, lc_R (n := ((w0 * h0 : Nat) : Int).toNat) (fun i y H => ∃ q, y = V.ref q ∧ H q = some (.tup [.int ((i / h0 : Nat) : Int), .int ((i % h0 : Nat) : Int)])) wk_range (by omega) (fun i y H1 H2 e ⟨q, h1, h2⟩ => ⟨q, h1, e.tup h2⟩) (fun i x H4 H5 hi e hx R hR => ?_) fun P ps H4 hP e4 h4 hpl hps => ?_⟩
  · obtain ⟨rfl, rfl⟩ := y_rng hx
    refine ⟨rfl, ?_⟩
    walk_at "wp"
    refine r_div (by omega) (by omega) ?_
    walk_at "wp"
    refine ⟨_, rfl, ?_⟩
    walk_at "wp"
    refine r_mod (by omega) ?_
    walk_at "wp"
    refine al (by walk_at "sz") fun t5 H6 ht5 e5 h5 => ?_
    exact hR _ H6 e5 ⟨t5, rfl, by rw [h5]; simp⟩
  · have hpl2 : ps.length = w0 * h0 := by
      have := hpl
      rw [this]
      exact Int.toNat_natCast _
    walk_at "wp"
    have d4 := d3.ex' e4
    refine ⟨P, rfl, ⟨_, stL h4⟩, lc_V (encI (shA w0 h0)) (wk_list (stL h4)) (by omega) (by rw [encI_len, pa.len, hpl2]) (fun i x y H5 H6 hy e hx R hR => ?_) fun D1 H5 hD1 e5 hD1l => ?_⟩
    · obtain ⟨rfl, hx⟩ := hx
      obtain ⟨hi, rfl⟩ := encI_at hy
      rw [pa.len] at hi
      obtain ⟨q, rfl, hq⟩ := hps i x hx
      refine g_two (stT (e _ _ hq)) ?_
      refine ⟨rfl, ?_⟩
      walk_at "wp"
      refine ⟨_, rfl, ?_⟩
      walk_at "wp"
      refine r_mod (by omega) ?_
      walk_at "wp"
      refine r_mulR (by omega) (by omega) ?_
      walk_at "wp"
      unfold shA at hR
      rw [ap_range hi] at hR
      have : (((i / h0 : Nat) : Int) + 1) % (w0 : Int) * (h0 : Int) + ((i % h0 : Nat) : Int) = (((i / h0 + 1) % w0 * h0 + i % h0 : Nat) : Int) := by simp
      rw [this]
      exact hR _ (Ex.refl _)
    · walk_at "wp"
      refine ⟨P, rfl, ⟨_, stL (e5 _ _ h4)⟩, lc_V (encI (shB w0 h0)) (wk_list (stL (e5 _ _ h4))) (by omega) (by rw [encI_len, pb.len, hpl2]) (fun i x y H6 H7 hy e hx R hR => ?_) fun D2 H6 hD2 e6 hD2l => ?_⟩
      · obtain ⟨rfl, hx⟩ := hx
        obtain ⟨hi, rfl⟩ := encI_at hy
        rw [pb.len] at hi
        obtain ⟨q, rfl, hq⟩ := hps i x hx
        refine g_two (stT (e _ _ (e5 _ _ hq))) ?_
        refine ⟨rfl, ?_⟩
        walk_at "wp"
        refine r_mulR (by omega) (by omega) ?_
        walk_at "wp"
        refine ⟨_, rfl, ?_⟩
        walk_at "wp"
        refine r_mod (by omega) ?_
        walk_at "wp"
        unfold shB at hR
        rw [ap_range hi] at hR
        have : ((i / h0 : Nat) : Int) * (h0 : Int) + (((i % h0 : Nat) : Int) + ((i / h0 : Nat) : Int)) % (h0 : Int) = ((i / h0 * h0 + (i % h0 + i / h0) % h0 : Nat) : Int) := by simp
        rw [this]
        exact hR _ (Ex.refl _)
      · walk_at "wp"
        refine al (by walk_at "sz") fun r H7 hr e7 h7 => ?_
        walk_at "wp"
        have d5 := d4.ex' e5
        have d6 := d5.ex' e6
        have d7 := d6.ex' e7
        have hD1n := d4.new hD1
        have hD2n := d5.new hD2
        have hrn := d6.new hr
        have hD1r : D1 ≠ r := fun e0 => by rw [e0] at hD1l; rw [e6 _ _ hD1l] at hr; cases hr
        have hD2r : D2 ≠ r := fun e0 => by rw [e0] at hD2l; rw [hD2l] at hr; cases hr
        have x07 : Xd l c H H7 := x03.trans ((Xd.of d3 e4).trans (Xd.of d4 ((e5.trans e6).trans e7)))
        have hLR : LR H7 l c r [V.ref D1, V.ref D2] [shA w0 h0, shB w0 h0] := ((LR.nil H7 l c r).snoc (e7 _ _ (e6 _ _ hD1l)) hD1n.1 hD1n.2 hD1r).snoc (e7 _ _ hD2l) hD2n.1 hD2n.2 hD2r
        have hrH : H r = none := x03.free d3 (e4.free (e5.free (e6.free hr)))
        refine ⟨l, c, 2, rfl, d7, by decide, by decide, fun v3 H8 hv3 x8 d8 => ?_⟩
        walk_at "wp"
        have hr8 := x8.lst h7 hrn.1 hrn.2
        have x08 := x07.trans x8
        have hLR8 := hLR.xd x8
        have e47 := (e5.trans e6).trans e7
        have hPn := d3.new hP
        have hPr : P ≠ r := fun e0 => by rw [e0] at h4; rw [e6 _ _ (e5 _ _ h4)] at hr; cases hr
        have hP8 := x8.lst (e47 _ _ h4) hPn.1 hPn.2
        refine i_d (fun _ => ?_) (fun _ => ?_)
        · walk_at "wp"
          refine ty_list (stL hr8) ?_
          walk_at "wp"
          refine ⟨P, rfl, ⟨_, stL hP8⟩, lc_V (encI (shC w0 h0)) (wk_list (stL hP8)) (by omega) (by rw [encI_len, pc.len, hpl2]) (fun i x y H9 HA hy e hx R hR => ?_) fun D3 H9 hD3 e9 hD3l => ?_⟩
          · obtain ⟨rfl, hx⟩ := hx
            obtain ⟨hi, rfl⟩ := encI_at hy
            rw [pc.len] at hi
            obtain ⟨q, rfl, hq⟩ := hps i x hx
            refine g_two (stT (e _ _ (x8.tup (e47 _ _ hq)))) ?_
            refine ⟨rfl, ?_⟩
            walk_at "wp"
            refine r_mulR (by omega) (by omega) ?_
            walk_at "wp"
            refine ⟨_, rfl, ?_⟩
            walk_at "wp"
            refine r_mod (by omega) ?_
            walk_at "wp"
            unfold shC at hR
            rw [ap_range hi] at hR
            have : ((i / h0 : Nat) : Int) * (h0 : Int) + (((i % h0 : Nat) : Int) + 1) % (h0 : Int) = ((i / h0 * h0 + (i % h0 + 1) % h0 : Nat) : Int) := by simp
            rw [this]
            exact hR _ (Ex.refl _)
          · walk_at "wp"
            have hr9 := e9 _ _ hr8
            refine r_app hr9 (by walk_at "sz") fun HA mA hA => ?_
            walk_at "wp"
            have d9 := d8.ex' e9
            have hD3n := d8.new hD3
            have hD3r : D3 ≠ r := fun e0 => by rw [e0, hr8] at hD3; cases hD3
            refine k (w0 * h0) ([shA w0 h0, shB w0 h0] ++ [shC w0 h0]) _ r HA ((x08.trans (Xd.of d8 e9)).mu mA hrH) (d9.mu mA hrn.1 hrn.2) hrn.1 hrn.2 hA (((hLR8.ex e9).snoc hD3l hD3n.1 hD3n.2 hD3r).mu mA).lsts (by simp) (by simp) (fun f hf => ?_) (by omega) (by omega)
            simp at hf
            rcases hf with rfl | rfl | rfl
            · exact pa
            · exact pb
            · exact pc
        · walk_at "wp"
          refine k (w0 * h0) [shA w0 h0, shB w0 h0] _ r H8 x08 d8 hrn.1 hrn.2 hr8 hLR8.lsts (by simp) (by simp) (fun f hf => ?_) (by omega) (by omega)
          simp at hf
          rcases hf with rfl | rfl
          · exact pa
          · exact pb

end
end Eo
namespace Eo
open PySem PyProof.Rows L2 L2.DX
/-! words of the walk: wp goes on where nothing is open; hl looks an object up; ex: what stood stands -/
local macro_rules | `(tactic| walk_at "hl") => `(tactic| first | assumption | exact PlT.sq (by assumption) | (refine stT ?_; walk_at "hl") | (refine stL ?_; walk_at "hl") | (refine Ex.at (by assumption) ?_; walk_at "hl") | (refine Mu.tup (by assumption) ?_; walk_at "hl") | (refine Ex.sqT (by assumption) ?_; walk_at "hl") | (refine Ex.sqL (by assumption) ?_; walk_at "hl") | (refine Ex.plT (by assumption) ?_; walk_at "hl") | (refine Mu.plT (by assumption) ?_; walk_at "hl"))
local macro_rules | `(tactic| walk_at "ex") => `(tactic| first | assumption | exact Ex.refl _ | (refine Ex.trans ?_ (by assumption); walk_at "ex") | (refine Ex.mu ?_ (by assumption) (by first | assumption | walk_at "fr"); walk_at "ex"))
local macro_rules | `(tactic| walk_at "fr") => `(tactic| first | assumption | (refine Ex.free (by assumption) ?_; walk_at "fr"))
local macro_rules | `(tactic| walk_at "rf") => `(tactic| with_unfolding_all rfl)
local macro_rules | `(tactic| walk_at "wp") => `(tactic| repeat (with_reducible first
  | refine q_seq ?_ | refine q_asg ?_ | refine q_ret ?_ | refine q_drop ?_ | refine q_if ?_ | refine q_next ?_ | refine q_par ?_ | refine q_par3 ?_ | refine q_retN ?_ | refine q_cont ?_ | refine q_brk ?_
  | refine e_var (by with_unfolding_all rfl) ?_ | refine e_c ?_ | refine e_op ?_ | refine e_cons ?_ | refine e_nil ?_ | refine e_test ?_ | refine e_B ?_ | refine e_yes ?_ | refine e_cb ?_ | refine e_call ?_ | refine e_then ?_ | refine e_tup ?_ | refine e_lst ?_
  | refine x_bl ?_ | refine i_T ?_ | refine i_F ?_ | refine x_two ?_ | refine x_three ?_
  | refine r_I0 ?_ | refine r_add ?_ | refine r_ip ?_ | refine g_nm ?_ | refine r_eqI ?_ | refine r_neI ?_ | refine r_eq (by with_unfolding_all rfl) ?_ | refine r_ne (by with_unfolding_all rfl) ?_
  | refine e_not ?_ | refine e_and ?_ | refine e_or ?_ | refine e_andV ?_ | refine e_orV ?_ | refine e_notV ?_ | refine e_ifx ?_ | refine e_idxF ?_ | refine e_idxI ?_ | refine e_sl ?_ | refine e_part ?_ | refine e_nopart ?_ | refine f_revA ?_ | refine e_lenSet ?_ | refine l_dcT ?_ | refine e_sadd ?_ | refine q_asgS ?_ | refine q_augS ?_ | refine e_tupRg ?_ | refine e_lstRg ?_ | refine e_rg1 ?_ | refine e_rg2 ?_ | refine e_dget ?_ | refine e_din ?_ | refine e_dnotin ?_ | refine e_dget2 ?_ | refine q_dput ?_ | refine e_un ?_ | refine e_chain ?_ | refine e_bm ?_ | refine e_bm0 ?_ | refine e_fld ?_ | refine q_asgT ?_
  | refine l_any ?_ | refine l_tup ?_ | refine l_list ?_ | refine l_rng1 ?_ | refine l_rng2 ?_ | refine l_str ?_ | refine l_enumL ?_ | refine l_enumT ?_ | refine l_zip ?_ | refine l_zipM ?_
  | refine f_tup ?_ | refine f_list ?_ | refine f_rng1 ?_ | refine f_enumL ?_ | refine f_enumT ?_))
local macro_rules | `(tactic| walk_at "sz") => `(tactic| first | decide | (refine small ?_; simp; done) | (refine small ?_; simp; omega) | (refine smallL ?_; simp; done) | (refine smallL ?_; simp; omega) | (simp; done) | (simp; omega))
section
variable {P : Program} {w : World} {K : PySem.W.Frag} {mg : Str → Option Value} {base : Heap} {C : Addr} {A : Nat → Addr} {FD : Nat → FuncData}
theorem sign_pm {m : Nat} {f : List Nat} (h : Pm m f) (o : Nat) : Pm (m + 2) (f ++ [m + o % 2, m + (o + 1) % 2]) := by
  refine ⟨by rw [List.length_append, h.len]; rfl, fun x hx => ?_, ?_⟩
  · rcases List.mem_append.mp hx with hx | hx
    · have := h.lt x hx
      omega
    · simp at hx
      omega
  · rw [List.nodup_append]
    refine ⟨h.nd, ?_, fun x hx y hy e => ?_⟩
    · simp
      omega
    · have := h.lt x hx
      simp at hy
      omega
theorem ok_L_signed (T : Tx K mg C A FD) : (FnOk P w K mg base CX0 3 (A 51) (FD 51) ["_law_deal_here"] sp_shape) := by
  refine T.d_L_signed.F.ok sc_L_signed (fun vs H Q E h => by obtain ⟨l, c, rfl, hd, k⟩ := h; rfl) (fun cdv A0 outer s H vs Q E hr h => ?_)
  obtain ⟨l, c, rfl, hd, k⟩ := h
  have hu := hu_of hr
  have hu64 := hr.units
  have hu2 : _ + 65 < cLine := (fun {A : Around} {k} (hr : Room k A) => (by have := hr.un; omega : A.units + 65 < cLine)) hr
  refine ⟨_, (pss_cons (ps_asg (pe_tup (pa_cons (pe_op op_add pe_int (pe_call (ok_L_any T) (hr.mono (by decide)) (by rfl) T.d_L_any.g T.d_L_any.F.kp T.d_L_any.b .nil pass0 (pa_cons (pv 0) (pa_cons pe_int pa_nil)))) (pa_cons (pe_lst pa_nil) pa_nil))) (kpg_tup K (n := 2) (by rfl) (pgs_cons (pg_name (i := 1) sc_L_signed.nd rfl (by first | exact .inl rfl | exact .inr rfl)) (pgs_cons (pg_name (i := 2) sc_L_signed.nd rfl (by first | exact .inl rfl | exact .inr rfl)) pgs_nil))))
    (pss_cons (ps_for PassesOwn.never rfl (pi_range1 (by rfl) T.z_range (pa_cons pe_int pa_nil)) (pg_name (i := 3) sc_L_signed.nd rfl (by first | exact .inl rfl | exact .inr rfl)) (pss_cons (ps_set (i := 4) sc_L_signed.nd rfl (.inr rfl) (pe_call (ok_L_turn T) (hr.mono (by decide)) (by rfl) T.d_L_turn.g T.d_L_turn.F.kp T.d_L_turn.b .nil pass0 (pa_cons (pv 0) (pa_cons (pv 1) pa_nil))))
      (pss_cons (ps_set (i := 5) sc_L_signed.nd rfl (.inl rfl) (pe_callB (kcall_len K) (by rfl) T.z_len (by decide +kernel) (pa_cons (pe_lc rfl sc_L_signed.nd (pi_range1 (by rfl) T.z_range (pa_cons (pe_op op_mul (pv 1) (pv 1)) pa_nil)) (blkOk_by (own := [("_law_x", 6)]) (N := N_L_signed) (sc := defScope s_L_signed) (by decide +kernel)) (fun _ _ _ _ _ => (pg_name (i := 6) sc_L_signed.nd rfl (by first | exact .inl rfl | exact .inr rfl))) (fun _ _ _ _ _ => (pts_one (PW.pt (pw_and (pt_cmpR op_lt (pe_op op_mod (pe_callTy kcall_int (by rfl) T.z_int (by decide +kernel) (pa_cons (pv 6) pa_nil)) (pv 1)) (pe_op op_fdiv (pv 6) (pv 1)) (nomark _)) (pw_and1 (pt_cmpR op_gt (pe_ix (kix_list K) (pv 4) (pe_op op_mod (pe_callTy kcall_int (by rfl) T.z_int (by decide +kernel) (pa_cons (pv 6) pa_nil)) (pv 1)) (fun _ _ => rfl)) (pe_ix (kix_list K) (pv 4) (pe_op op_fdiv (pv 6) (pv 1)) (fun _ _ => rfl)) (nomark _))))))) (fun _ _ _ _ _ => (pv 6))) pa_nil)))
      (pss_one (ps_expr (kpe_bm K PySem.F.plainAttrs_list PySem.F.slot_list_append PySem.F.type_list_append mt_append (pv 2) (pa_cons (pe_op op_cat (pv 4) (pe_lst (pa_cons (pe_op op_add (pv 1) (pe_op op_mod (pe_callTy kcall_int (by rfl) T.z_int (by decide +kernel) (pa_cons (pv 5) pa_nil)) pe_int)) (pa_cons (pe_op op_add (pv 1) (pe_op op_mod (pe_callTy kcall_int (by rfl) T.z_int (by decide +kernel) (pa_cons (pe_op op_add (pv 5) pe_int) pa_nil)) pe_int)) pa_nil)))) pa_nil)))))))
    (pss_one (ps_ret (pv 2))))), ?_⟩
  clear hu hu64 hu2
  walk_at "wp"
  refine ⟨l, c, 2, rfl, hd, by decide, by decide, fun v1 H1 hv1 x1 d1 => ?_⟩
  walk_at "wp"
  refine al (by walk_at "sz") fun r H2 hr e2 h2 => ?_
  walk_at "wp"
  refine al (by walk_at "sz") fun tt H3 htt e3 h3 => ?_
  refine g_two (stT h3) ?_
  walk_at "wp"
  obtain ⟨m, hm⟩ : ∃ m : Nat, m = 3 + v1 := ⟨_, rfl⟩
  have em : ((3 : Int) + (v1 : Int)) = ((m : Nat) : Int) := by omega
  simp only [em]
  have d2 := d1.ex' e2
  have d3 := d2.ex' e3
  have hrn := d1.new hr
  have hrH : H r = none := x1.free d1 hr
  have x03 : Xd l c H H3 := x1.trans (Xd.of d1 (e2.trans e3))
  have hmul : ((m : Int) * (m : Int)) = ((m * m : Nat) : Int) := by simp
  have mm16 : m * m ≤ 16 := Nat.mul_le_mul (show m ≤ 4 by omega) (show m ≤ 4 by omega)
  refine ⟨2, rfl, by decide, by decide, fr_W walk_range (fun i σ H6 => Xd l c H H6 ∧ DealAt H6 l c ∧ ∃ (x4 x5 x6 x7 : Option V) (vs : List V) (fs : List (List Nat)), σ = [some (.ref l), some (.int (m : Nat)), some (.ref r), x4, x5, x6, x7] ∧ H6 r = some (.lst vs) ∧ LR H6 l c r vs fs ∧ fs.length = i ∧ ∀ f ∈ fs, Pm (m + 2) f)
    ⟨x03, d3, _, _, _, _, [], [], rfl, e3 _ _ h2, LR.nil _ _ _ _, rfl, fun f h => nm0 h⟩ (fun _ _ _ _ _ => trivial) (fun i x σ H6 H7 hi h y => ?_) (fun σ H6 h => ?_)⟩
  · obtain ⟨x6, d6, o4, o5, o6, o7, vs, fs, rfl, hr6, hLR, hfl, hfp⟩ := h
    obtain ⟨rfl, rfl⟩ := y_rng y
    have hi2 : i < 2 := hi
    walk_at "wp"
    refine ⟨l, c, m, rfl, d6, by omega, fun f p H8 hp p1 p2 x8 d8 h8 pf => ?_⟩
    walk_at "wp"
    refine r_mulR (by omega) (by omega) ?_
    rw [hmul]
    refine ⟨((m * m : Nat) : Int), rfl, by omega, by omega, lc_I (n := ((m * m : Nat) : Int).toNat) (fun i acc _ => True) wk_range (by omega) (fun _ _ => trivial) (fun _ _ _ _ _ h => h) (fun i acc x H9 HA hi e hI y P N hP hN => ?_) fun D acc H9 hD e9 hDl hal hI => ?_⟩
    · obtain ⟨rfl, rfl⟩ := y_rng y
      have hi3 : i < m * m := by
        have h := hi
        rw [Int.toNat_natCast] at h
        exact h
      have hd1 : i / m < m := Nat.div_lt_of_lt_mul hi3
      have hm1 : i % m < m := Nat.mod_lt _ (by omega)
      have ed : ((i : Int) / (m : Int)) = ((i / m : Nat) : Int) := by simp
      have emm : ((i : Int) % (m : Int)) = ((i % m : Nat) : Int) := by simp
      refine ⟨rfl, ?_⟩
      walk_at "wp"
      refine ⟨_, rfl, ?_⟩
      walk_at "wp"
      refine r_mod (by omega) ?_
      walk_at "wp"
      refine r_div (by omega) (by omega) ?_
      walk_at "wp"
      refine i_d (fun h => ?_) (fun h => ?_)
      · walk_at "wp"
        refine ⟨_, rfl, ?_⟩
        walk_at "wp"
        refine r_mod (by omega) ?_
        rw [emm]
        refine r_ixEL (stL (e _ _ h8)) (by rw [pf.len]; exact hm1) ?_
        walk_at "wp"
        refine r_div (by omega) (by omega) ?_
        rw [ed]
        refine r_ixEL (stL (e _ _ h8)) (by rw [pf.len]; exact hd1) ?_
        walk_at "wp"
        refine i_d (fun h => ?_) (fun h => ?_)
        · walk_at "wp"
          exact hP _ _ (Ex.refl _) trivial
        · exact hN _ (Ex.refl _) trivial
      · exact hN _ (Ex.refl _) trivial
    · walk_at "wp"
      refine r_lenL (stL hDl) ?_
      walk_at "wp"
      have hr9 := e9 _ _ (x8.lst hr6 hrn.1 hrn.2)
      have h89 := e9 _ _ h8
      refine ty_list (stL hr9) ?_
      walk_at "wp"
      refine ⟨_, rfl, ?_⟩
      walk_at "wp"
      refine r_mod (by decide) ?_
      walk_at "wp"
      refine ⟨_, rfl, ?_⟩
      walk_at "wp"
      refine r_mod (by decide) ?_
      walk_at "wp"
      refine al (by walk_at "sz") fun t1 HA ht1 eA hA => ?_
      have a1 : ((m : Int) + ((acc.length : Nat) : Int) % 2) = ((m + acc.length % 2 : Nat) : Int) := by simp
      have a2 : ((m : Int) + (((acc.length : Nat) : Int) + 1) % 2) = ((m + (acc.length + 1) % 2 : Nat) : Int) := by simp
      rw [a1, a2] at hA
      refine r_cat (eA _ _ h89) hA (by refine small ?_; rw [encI_len, pf.len]; simp; omega) fun q HB hq eB hB => ?_
      have hB2 : HB q = some (.lst (encI (f ++ [m + acc.length % 2, m + (acc.length + 1) % 2]))) := by
        rw [hB]
        unfold encI
        rw [List.map_append]
        rfl
      walk_at "wp"
      have d9 := d8.ex' e9
      have dA := d9.ex' eA
      have dB := dA.ex' eB
      have hqn := dA.new hq
      have hrA := eA _ _ hr9
      have hqr : q ≠ r := fun e0 => by rw [e0, hrA] at hq; cases hq
      have hrB := eB _ _ hrA
      refine r_app hrB (smallL (by rw [hLR.1]; omega)) fun HC mC hC => ?_
      have e8B := (e9.trans eA).trans eB
      refine ⟨((x6.trans x8).trans (Xd.of d8 e8B)).mu mC hrH, dB.mu mC hrn.1 hrn.2, _, _, _, _, _, fs ++ [f ++ [m + acc.length % 2, m + (acc.length + 1) % 2]], rfl, hC, (((hLR.xd x8).ex e8B).snoc hB2 hqn.1 hqn.2 hqr).mu mC, by rw [List.length_append, hfl]; rfl, fun g hg => ?_⟩
      rcases List.mem_append.mp hg with hg | hg
      · exact hfp g hg
      · rw [List.mem_singleton] at hg
        subst hg
        exact sign_pm pf _
  · obtain ⟨x6, d6, o4, o5, o6, o7, vs, fs, rfl, hr6, hLR, hfl, hfp⟩ := h
    walk_at "wp"
    have hfl2 : fs.length = 2 := hfl
    exact k (m + 2) fs vs r H6 x6 d6 hrn.1 hrn.2 hr6 hLR.lsts (by omega) (by omega) hfp (by omega) (by omega)

end
end Eo
namespace Eo
open PySem PyProof.Rows L2 L2.DX
/-! words of the walk: wp goes on where nothing is open; hl looks an object up; ex: what stood stands -/
local macro_rules | `(tactic| walk_at "hl") => `(tactic| first | assumption | exact PlT.sq (by assumption) | (refine stT ?_; walk_at "hl") | (refine stL ?_; walk_at "hl") | (refine Ex.at (by assumption) ?_; walk_at "hl") | (refine Mu.tup (by assumption) ?_; walk_at "hl") | (refine Ex.sqT (by assumption) ?_; walk_at "hl") | (refine Ex.sqL (by assumption) ?_; walk_at "hl") | (refine Ex.plT (by assumption) ?_; walk_at "hl") | (refine Mu.plT (by assumption) ?_; walk_at "hl"))
local macro_rules | `(tactic| walk_at "ex") => `(tactic| first | assumption | exact Ex.refl _ | (refine Ex.trans ?_ (by assumption); walk_at "ex") | (refine Ex.mu ?_ (by assumption) (by first | assumption | walk_at "fr"); walk_at "ex"))
local macro_rules | `(tactic| walk_at "fr") => `(tactic| first | assumption | (refine Ex.free (by assumption) ?_; walk_at "fr"))
local macro_rules | `(tactic| walk_at "rf") => `(tactic| with_unfolding_all rfl)
local macro_rules | `(tactic| walk_at "wp") => `(tactic| repeat (with_reducible first
  | refine q_seq ?_ | refine q_asg ?_ | refine q_ret ?_ | refine q_drop ?_ | refine q_if ?_ | refine q_next ?_ | refine q_par ?_ | refine q_par3 ?_ | refine q_retN ?_ | refine q_cont ?_ | refine q_brk ?_
  | refine e_var (by with_unfolding_all rfl) ?_ | refine e_c ?_ | refine e_op ?_ | refine e_cons ?_ | refine e_nil ?_ | refine e_test ?_ | refine e_B ?_ | refine e_yes ?_ | refine e_cb ?_ | refine e_call ?_ | refine e_then ?_ | refine e_tup ?_ | refine e_lst ?_
  | refine x_bl ?_ | refine i_T ?_ | refine i_F ?_ | refine x_two ?_ | refine x_three ?_
  | refine r_I0 ?_ | refine r_add ?_ | refine r_ip ?_ | refine g_nm ?_ | refine r_eqI ?_ | refine r_neI ?_ | refine r_eq (by with_unfolding_all rfl) ?_ | refine r_ne (by with_unfolding_all rfl) ?_
  | refine e_not ?_ | refine e_and ?_ | refine e_or ?_ | refine e_andV ?_ | refine e_orV ?_ | refine e_notV ?_ | refine e_ifx ?_ | refine e_idxF ?_ | refine e_idxI ?_ | refine e_sl ?_ | refine e_part ?_ | refine e_nopart ?_ | refine f_revA ?_ | refine e_lenSet ?_ | refine l_dcT ?_ | refine e_sadd ?_ | refine q_asgS ?_ | refine q_augS ?_ | refine e_tupRg ?_ | refine e_lstRg ?_ | refine e_rg1 ?_ | refine e_rg2 ?_ | refine e_dget ?_ | refine e_din ?_ | refine e_dnotin ?_ | refine e_dget2 ?_ | refine q_dput ?_ | refine e_un ?_ | refine e_chain ?_ | refine e_bm ?_ | refine e_bm0 ?_ | refine e_fld ?_ | refine q_asgT ?_
  | refine l_any ?_ | refine l_tup ?_ | refine l_list ?_ | refine l_rng1 ?_ | refine l_rng2 ?_ | refine l_str ?_ | refine l_enumL ?_ | refine l_enumT ?_ | refine l_zip ?_ | refine l_zipM ?_
  | refine f_tup ?_ | refine f_list ?_ | refine f_rng1 ?_ | refine f_enumL ?_ | refine f_enumT ?_))
local macro_rules | `(tactic| walk_at "sz") => `(tactic| first | decide | (refine small ?_; simp; done) | (refine small ?_; simp; omega) | (refine smallL ?_; simp; done) | (refine smallL ?_; simp; omega) | (simp; done) | (simp; omega))
section
variable {P : Program} {w : World} {K : PySem.W.Frag} {mg : Str → Option Value} {base : Heap} {C : Addr} {A : Nat → Addr} {FD : Nat → FuncData}
section
variable {σ : L2.St} {H : Hp} {Q : VK} {J : It} {n : Nat} {Y : Nat → Hp → V → Hp → Prop} {G : Hp → Prop} {g : TG} {tt : TT} {te : TE} {vs : List Nat} {l c : Addr}
/-- as lc_J, where the items are drawn -/
theorem lc_D (hd : DealAt H l c) (I : Addr → Nat → List V → Hp → Prop) (w : Walk J n G Y) (hG : ∀ H', Xd l c H H' → DealAt H' l c → G H') (ext : ∀ i H1 x H2, Y i H1 x H2 → Ex H1 H2) (hn : n ≤ 50000) (h0 : ∀ D H1, H D = none → Ex H H1 → I D 0 [] H1)
    (mono : ∀ D i acc H1 H2, (∀ b o, b ≠ D → H1 b = some o → H2 b = some o) → I D i acc H1 → I D i acc H2)
    (step : ∀ D i acc x H1 H2, i < n → Xd l c H H2 → DealAt H2 l c → D ≠ l → D ≠ c → H2 D = some (.lst acc) → I D i acc H2 → Y i H1 x H2 → ∀ R : V → Hp → Prop, ∀ N : Hp → Prop, (∀ y H3, Xd l c H2 H3 → DealAt H3 l c → I D (i + 1) (acc ++ [y]) H3 → R y H3) → (∀ H3, Xd l c H2 H3 → DealAt H3 l c → I D (i + 1) acc H3 → N H3) →
      g x (wipe σ vs) H2 fun σ2 H3 => wipe σ2 vs = wipe σ vs ∧ tt σ2 H3 fun b H4 => if b = true then te σ2 H4 R else N H4)
    (k : ∀ D acc H1, H D = none → D ≠ l → D ≠ c → Xd l c H H1 → DealAt H1 l c → H1 D = some (.lst acc) → acc.length ≤ n → I D n acc H1 → Q (.ref D) H1) : Lc J g tt te vs σ H Q := by
  intro D hD
  obtain ⟨n1, n2⟩ := hd.new hD
  refine lc_it w (D := D) (Qd := fun H' => Q (.ref D) H') (fun i H' => Xd l c H H' ∧ DealAt H' l c ∧ ∃ acc, H' D = some (.lst acc) ∧ acc.length ≤ i ∧ I D i acc H') ⟨Xd.of hd (Ex.new hD), hd.ex' (Ex.new hD), [], upd_same, Nat.zero_le _, h0 _ _ hD (Ex.new hD)⟩ (fun i H' _ p => hG H' p.1 p.2.1) (fun i x H1 H2 hi p y => ?_)
    fun H' p => let ⟨e, d, acc, h1, h2, h3⟩ := p; k D acc H' hD n1 n2 e d h1 h2 h3
  obtain ⟨e, d, acc, h1, h2, h3⟩ := p
  have e2 := ext _ _ _ _ y
  have d2 := d.ex' e2
  have x2 := e.trans (Xd.of d e2)
  refine step D i acc x H1 H2 hi x2 d2 n1 n2 (e2 _ _ h1) (mono _ _ _ _ _ (fun b o _ h => e2 b o h) h3) y (fun y H4 => ∃ acc, H4 D = some (.lst acc) ∧ acc.length < sizeLine ∧ (Xd l c H (upd H4 D (.lst (acc ++ [y]))) ∧ DealAt (upd H4 D (.lst (acc ++ [y]))) l c ∧ ∃ acc', (upd H4 D (.lst (acc ++ [y]))) D = some (.lst acc') ∧ acc'.length ≤ i + 1 ∧ I D (i + 1) acc' (upd H4 D (.lst (acc ++ [y])))))
    (fun H3 => Xd l c H H3 ∧ DealAt H3 l c ∧ ∃ acc, H3 D = some (.lst acc) ∧ acc.length ≤ i + 1 ∧ I D (i + 1) acc H3)
    (fun y H3 e3 d3 q => ?_) (fun H3 e3 d3 q => ⟨x2.trans e3, d3, acc, e3.lst (e2 _ _ h1) n1 n2, by omega, q⟩)
  have at3 := e3.lst (e2 _ _ h1) n1 n2
  have m : Mu D H3 (upd H3 D (.lst (acc ++ [y]))) := Mu.of at3 rfl
  exact ⟨acc, at3, smallL (by omega), (x2.trans e3).mu m hD, d3.mu m n1 n2, acc ++ [y], upd_same, by rw [List.length_append, List.length_singleton]; omega, mono _ _ _ _ _ m.rest q⟩
end
theorem block_pm {s m b : Nat} {f : List Nat} (h : Pm s f) (hm : 0 < m) : Pm (s + m) (f ++ (List.range m).map fun x => s + (x + b) % m) := by
  refine ⟨by rw [List.length_append, h.len, List.length_map, List.length_range], fun x hx => ?_, ?_⟩
  · rcases List.mem_append.mp hx with hx | hx
    · have := h.lt x hx
      omega
    · obtain ⟨y, _, rfl⟩ := List.mem_map.mp hx
      have := Nat.mod_lt (y + b) hm
      omega
  · rw [List.nodup_append]
    refine ⟨h.nd, nodup_map List.nodup_range fun x hx y hy e => ?_, fun x hx y hy e => ?_⟩
    · rw [List.mem_range] at hx hy
      have e2 : (x + b) % m = (y + b) % m := by omega
      have h1 := Nat.sub_mod_eq_zero_of_mod_eq e2
      have h2 := Nat.sub_mod_eq_zero_of_mod_eq e2.symm
      rw [Nat.mod_eq_of_lt (by omega)] at h1 h2
      omega
    · obtain ⟨z, _, rfl⟩ := List.mem_map.mp hy
      have := h.lt x hx
      omega

end
end Eo
namespace Eo
open PySem PyProof.Rows L2 L2.DX
/-! words of the walk: wp goes on where nothing is open; hl looks an object up; ex: what stood stands -/
local macro_rules | `(tactic| walk_at "hl") => `(tactic| first | assumption | exact PlT.sq (by assumption) | (refine stT ?_; walk_at "hl") | (refine stL ?_; walk_at "hl") | (refine Ex.at (by assumption) ?_; walk_at "hl") | (refine Mu.tup (by assumption) ?_; walk_at "hl") | (refine Ex.sqT (by assumption) ?_; walk_at "hl") | (refine Ex.sqL (by assumption) ?_; walk_at "hl") | (refine Ex.plT (by assumption) ?_; walk_at "hl") | (refine Mu.plT (by assumption) ?_; walk_at "hl"))
local macro_rules | `(tactic| walk_at "ex") => `(tactic| first | assumption | exact Ex.refl _ | (refine Ex.trans ?_ (by assumption); walk_at "ex") | (refine Ex.mu ?_ (by assumption) (by first | assumption | walk_at "fr"); walk_at "ex"))
local macro_rules | `(tactic| walk_at "fr") => `(tactic| first | assumption | (refine Ex.free (by assumption) ?_; walk_at "fr"))
local macro_rules | `(tactic| walk_at "rf") => `(tactic| with_unfolding_all rfl)
local macro_rules | `(tactic| walk_at "wp") => `(tactic| repeat (with_reducible first
  | refine q_seq ?_ | refine q_asg ?_ | refine q_ret ?_ | refine q_drop ?_ | refine q_if ?_ | refine q_next ?_ | refine q_par ?_ | refine q_par3 ?_ | refine q_retN ?_ | refine q_cont ?_ | refine q_brk ?_
  | refine e_var (by with_unfolding_all rfl) ?_ | refine e_c ?_ | refine e_op ?_ | refine e_cons ?_ | refine e_nil ?_ | refine e_test ?_ | refine e_B ?_ | refine e_yes ?_ | refine e_cb ?_ | refine e_call ?_ | refine e_then ?_ | refine e_tup ?_ | refine e_lst ?_
  | refine x_bl ?_ | refine i_T ?_ | refine i_F ?_ | refine x_two ?_ | refine x_three ?_
  | refine r_I0 ?_ | refine r_add ?_ | refine r_ip ?_ | refine g_nm ?_ | refine r_eqI ?_ | refine r_neI ?_ | refine r_eq (by with_unfolding_all rfl) ?_ | refine r_ne (by with_unfolding_all rfl) ?_
  | refine e_not ?_ | refine e_and ?_ | refine e_or ?_ | refine e_andV ?_ | refine e_orV ?_ | refine e_notV ?_ | refine e_ifx ?_ | refine e_idxF ?_ | refine e_idxI ?_ | refine e_sl ?_ | refine e_part ?_ | refine e_nopart ?_ | refine f_revA ?_ | refine e_lenSet ?_ | refine l_dcT ?_ | refine e_sadd ?_ | refine q_asgS ?_ | refine q_augS ?_ | refine e_tupRg ?_ | refine e_lstRg ?_ | refine e_rg1 ?_ | refine e_rg2 ?_ | refine e_dget ?_ | refine e_din ?_ | refine e_dnotin ?_ | refine e_dget2 ?_ | refine q_dput ?_ | refine e_un ?_ | refine e_chain ?_ | refine e_bm ?_ | refine e_bm0 ?_ | refine e_fld ?_ | refine q_asgT ?_
  | refine l_any ?_ | refine l_tup ?_ | refine l_list ?_ | refine l_rng1 ?_ | refine l_rng2 ?_ | refine l_str ?_ | refine l_enumL ?_ | refine l_enumT ?_ | refine l_zip ?_ | refine l_zipM ?_
  | refine f_tup ?_ | refine f_list ?_ | refine f_rng1 ?_ | refine f_enumL ?_ | refine f_enumT ?_))
local macro_rules | `(tactic| walk_at "sz") => `(tactic| first | decide | (refine small ?_; simp; done) | (refine small ?_; simp; omega) | (refine smallL ?_; simp; done) | (refine smallL ?_; simp; omega) | (simp; done) | (simp; omega))
section
variable {P : Program} {w : World} {K : PySem.W.Frag} {mg : Str → Option Value} {base : Heap} {C : Addr} {A : Nat → Addr} {FD : Nat → FuncData}
theorem ok_L_apart (T : Tx K mg C A FD) : (FnOk P w K mg base CX0 2 (A 53) (FD 53) ["_law_deal_here"] sp_shape) := by
  refine T.d_L_apart.F.ok sc_L_apart (fun vs H Q E h => by obtain ⟨l, c, rfl, hd, k⟩ := h; rfl) (fun cdv A0 outer s H vs Q E hr h => ?_)
  obtain ⟨l, c, rfl, hd, k⟩ := h
  have hu := hu_of hr
  have hu64 := hr.units
  have hu2 : _ + 65 < cLine := (fun {A : Around} {k} (hr : Room k A) => (by have := hr.un; omega : A.units + 65 < cLine)) hr
  refine ⟨_, (pss_cons (ps_setLc (i := 1) rfl sc_L_apart.nd rfl rfl (sw_true rfl rfl rfl (by decide +kernel)) (pi_range1 (by rfl) T.z_range (pa_cons (pe_op op_add pe_int (pe_call (ok_L_any T) (hr.mono (by decide)) (by rfl) T.d_L_any.g T.d_L_any.F.kp T.d_L_any.b .nil pass0 (pa_cons (pv 0) (pa_cons pe_int pa_nil)))) pa_nil)) (blkOk_by (own := [("_law_step", 2)]) (N := N_L_apart) (sc := defScope s_L_apart) (by decide +kernel)) (fun _ _ _ _ _ => (pg_name (i := 2) sc_L_apart.nd rfl (by first | exact .inl rfl | exact .inr rfl))) (fun _ _ _ _ _ => pts_nil) (fun _ _ _ _ _ => (pe_op op_add pe_int (pe_call (ok_L_any T) (hr.mono (by decide)) (by rfl) T.d_L_any.g T.d_L_any.F.kp T.d_L_any.b .nil pass0 (pa_cons (pv 0) (pa_cons pe_int pa_nil))))))
    (pss_cons (ps_set (i := 3) sc_L_apart.nd rfl (.inl rfl) (pe_lst pa_nil))
    (pss_cons (ps_for PassesOwn.never rfl (pi_range1 (by rfl) T.z_range (pa_cons (pe_op op_add pe_int (pe_call (ok_L_any T) (hr.mono (by decide)) (by rfl) T.d_L_any.g T.d_L_any.F.kp T.d_L_any.b .nil pass0 (pa_cons (pv 0) (pa_cons pe_int pa_nil)))) pa_nil)) (pg_name (i := 2) sc_L_apart.nd rfl (by first | exact .inl rfl | exact .inr rfl)) (pss_cons (ps_set (i := 4) sc_L_apart.nd rfl (.inl rfl) (pe_lst pa_nil))
      (pss_cons (ps_for PassesOwn.never rfl (kpi_list K (pv 1)) (pg_name (i := 5) sc_L_apart.nd rfl (by first | exact .inl rfl | exact .inr rfl)) (pss_cons (ps_asg (pe_tup (pa_cons (pe_call (ok_L_any T) (hr.mono (by decide)) (by rfl) T.d_L_any.g T.d_L_any.F.kp T.d_L_any.b .nil pass0 (pa_cons (pv 0) (pa_cons (pv 5) pa_nil))) (pa_cons (pe_callB (kcall_len K) (by rfl) T.z_len (by decide +kernel) (pa_cons (pv 4) pa_nil)) pa_nil))) (kpg_tup K (n := 2) (by rfl) (pgs_cons (pg_name (i := 6) sc_L_apart.nd rfl (by first | exact .inl rfl | exact .inr rfl)) (pgs_cons (pg_name (i := 7) sc_L_apart.nd rfl (by first | exact .inl rfl | exact .inr rfl)) pgs_nil))))
        (pss_one (ps_set (i := 4) sc_L_apart.nd rfl (.inl rfl) (pe_op op_cat (pv 4) (pe_lc rfl sc_L_apart.nd (pi_range1 (by rfl) T.z_range (pa_cons (pv 5) pa_nil)) (blkOk_by (own := [("_law_state", 8)]) (N := N_L_apart) (sc := defScope s_L_apart) (by decide +kernel)) (fun _ _ _ _ _ => (pg_name (i := 8) sc_L_apart.nd rfl (by first | exact .inl rfl | exact .inr rfl))) (fun _ _ _ _ _ => pts_nil) (fun _ _ _ _ _ => (pe_op op_add (pv 7) (pe_op op_mod (pe_callTy kcall_int (by rfl) T.z_int (by decide +kernel) (pa_cons (pe_op op_add (pv 8) (pv 6)) pa_nil)) (pv 5))))))))))
      (pss_one (ps_expr (kpe_bm K PySem.F.plainAttrs_list PySem.F.slot_list_append PySem.F.type_list_append mt_append (pv 3) (pa_cons (pv 4) pa_nil)))))))
    (pss_one (ps_ret (pv 3)))))), ?_⟩
  clear hu hu64 hu2
  walk_at "wp"
  refine ⟨l, c, 3, rfl, hd, by decide, by decide, fun v1 H1 hv1 x1 d1 => ?_⟩
  walk_at "wp"
  refine ⟨((1 + v1 : Nat) : Int), by simp, by omega, by omega, lc_D d1 (fun D i acc _ => ∃ us : List Nat, acc = encI us ∧ us.length = i ∧ ∀ u ∈ us, 2 ≤ u ∧ u ≤ 4) walk_range (fun _ _ _ => trivial) (fun i H1 x H2 y => by rw [y.1]; exact Ex.refl _) (by omega) (fun _ _ _ _ => ⟨[], rfl, rfl, fun u h => nm0 h⟩) (fun _ _ _ _ _ _ h => h) (fun D i acc x H4 H5 hi x5 d5 n1 n2 hDl hI y R N hR hN => ?_) fun D acc H3 hD n1 n2 x3 d3 hDl hal hI => ?_⟩
  · obtain ⟨us, rfl, hul, hu⟩ := hI
    obtain ⟨rfl, rfl⟩ := y_rng y
    refine ⟨rfl, ?_⟩
    walk_at "wp"
    refine ⟨l, c, 3, rfl, d5, by decide, by decide, fun v2 H6 hv2 x6 d6 => ?_⟩
    walk_at "wp"
    have e2 : ((2 : Int) + (v2 : Int)) = ((2 + v2 : Nat) : Int) := by simp
    rw [e2]
    refine hR _ H6 x6 d6 ⟨us ++ [2 + v2], encI_snoc _ _, by rw [List.length_append, hul]; rfl, fun u hu2 => ?_⟩
    rcases List.mem_append.mp hu2 with h | h
    · exact hu u h
    · rw [List.mem_singleton] at h
      omega
  · obtain ⟨us, rfl, hul, hu⟩ := hI
    walk_at "wp"
    refine al (by walk_at "sz") fun r H4 hr e4 h4 => ?_
    walk_at "wp"
    have d4 := d3.ex' e4
    have hrn := d3.new hr
    have hDr : D ≠ r := ne_of_none hDl hr
    have hrH : H r = none := x1.free d1 (x3.free d3 hr)
    have x04 : Xd l c H H4 := (x1.trans x3).trans (Xd.of d3 e4)
    have hul3 : us.length = 1 + v1 := by
      have h := hul
      omega
    refine ⟨l, c, 2, rfl, d4, by decide, by decide, fun v5 H5 hv5 x5 d5 => ?_⟩
    walk_at "wp"
    refine ⟨((1 + v5 : Nat) : Int), by simp, by omega, by omega, fr_W walk_range (fun i σ H6 => Xd l c H H6 ∧ DealAt H6 l c ∧ ∃ (o2 o4 o5 o6 o7 o8 : Option V) (vs : List V) (fs : List (List Nat)), σ = [some (.ref l), some (.ref D), o2, some (.ref r), o4, o5, o6, o7, o8] ∧ H6 D = some (.lst (encI us)) ∧ H6 r = some (.lst vs) ∧ LR H6 l c r vs fs ∧ fs.length = i ∧ ∀ f ∈ fs, Pm us.sum f)
      ⟨x04.trans x5, d5, _, _, _, _, _, _, [], [], rfl, x5.lst (e4 _ _ hDl) n1 n2, x5.lst h4 hrn.1 hrn.2, LR.nil _ _ _ _, rfl, fun f h => nm0 h⟩ (fun _ _ _ _ _ => trivial) (fun i x σ H6 H7 hi h y => ?_) (fun σ H6 h => ?_)⟩
    · obtain ⟨x6, d6, o2, o4, o5, o6, o7, o8, vs, fs, rfl, hD6, hr6, hLR, hfl, hfp⟩ := h
      obtain ⟨rfl, rfl⟩ := y_rng y
      walk_at "wp"
      refine al (by walk_at "sz") fun q0 H8 hq0 e8 h8 => ?_
      walk_at "wp"
      have hq0n := d6.new hq0
      have hq0r : q0 ≠ r := fun e0 => by rw [e0, hr6] at hq0; cases hq0
      refine ⟨D, rfl, ⟨_, stL (e8 _ _ hD6)⟩, fr_W walk_list (fun j σ H9 => Xd l c H H9 ∧ DealAt H9 l c ∧ ∃ (o2 o5 o6 o7 o8 : Option V) (q : Addr) (f : List Nat), σ = [some (.ref l), some (.ref D), o2, some (.ref r), some (.ref q), o5, o6, o7, o8] ∧ H9 D = some (.lst (encI us)) ∧ H9 r = some (.lst vs) ∧ LR H9 l c r vs fs ∧ H9 q = some (.lst (encI f)) ∧ q ≠ l ∧ q ≠ c ∧ q ≠ r ∧ Pm (us.take j).sum f)
        ⟨x6.trans (Xd.of d6 e8), d6.ex' e8, _, _, _, _, _, q0, [], rfl, e8 _ _ hD6, e8 _ _ hr6, hLR.ex e8, h8, hq0n.1, hq0n.2, hq0r, ⟨rfl, fun x h => nm0 h, List.nodup_nil⟩⟩ (fun j σ H9 hj h => by obtain ⟨_, _, _, _, _, _, _, _, _, _, h, _⟩ := h; exact stL h) (fun j x σ H9 HA hj h y => ?_) (fun σ H9 h => ?_)⟩
      · obtain ⟨x9, d9, p2, p5, p6, p7, p8, q, f, rfl, hD9, hr9, hLR9, hq9, q1, q2, q3, pf⟩ := h
        obtain ⟨rfl, hx⟩ := y
        obtain ⟨hj2, rfl⟩ := encI_at hx
        have hm := hu _ (ap_mem hj2)
        walk_at "wp"
        refine ⟨l, c, ap us j, rfl, d9, by omega, by omega, fun b HB hb xB dB => ?_⟩
        walk_at "wp"
        have hqB := xB.lst hq9 q1 q2
        refine r_lenL (stL hqB) ?_
        rw [encI_len]
        walk_at "wp"
        refine al (by walk_at "sz") fun tt HC htt eC hC => ?_
        refine g_two (stT hC) ?_
        walk_at "wp"
        have hqC := eC _ _ hqB
        have dC := dB.ex' eC
        generalize hbl : (List.range (ap us j)).map (fun x => f.length + (x + b) % ap us j) = bl
        have bll : bl.length = ap us j := by rw [← hbl, List.length_map, List.length_range]
        refine ⟨(ap us j : Nat), rfl, by omega, by omega, lc_V (encI bl) wk_range (by omega) (by rw [encI_len, bll]; omega) (fun i x y HD HE hy e hx R hR => ?_) fun D2 HD hD2 eD hDl2 => ?_⟩
        · obtain ⟨rfl, rfl⟩ := y_rng hx
          obtain ⟨hi, rfl⟩ := encI_at hy
          rw [bll] at hi
          refine ⟨rfl, ?_⟩
          walk_at "wp"
          refine ⟨_, rfl, ?_⟩
          walk_at "wp"
          refine r_mod (by omega) ?_
          walk_at "wp"
          rw [← hbl, ap_range hi] at hR
          have : ((f.length : Nat) : Int) + ((i : Int) + (b : Int)) % ((ap us j : Nat) : Int) = ((f.length + (i + b) % ap us j : Nat) : Int) := by simp
          rw [this]
          exact hR _ (Ex.refl _)
        · have hsmall : f.length ≤ 1000 := by
            have hss : ∀ (us : List Nat) (j : Nat), (∀ u ∈ us, u ≤ 4) → (us.take j).sum ≤ 4 * us.length := by
              intro us
              induction us with
              | nil => intro j _; simp
              | cons u us ih =>
                intro j h
                cases j with
                | zero => simp
                | succ j =>
                  have h1 := ih j fun x hx => h x (List.mem_cons_of_mem _ hx)
                  have h2 := h u (List.mem_cons_self ..)
                  simp only [List.take_succ_cons, List.sum_cons, List.length_cons]
                  omega
            have := hss us j fun u hu2 => (hu u hu2).2
            rw [pf.len]
            omega
          refine r_cat (eD _ _ hqC) hDl2 (small (by rw [encI_len, encI_len, bll]; omega)) fun q' HF hq' eF hF => ?_
          have hF2 : HF q' = some (.lst (encI (f ++ bl))) := by
            rw [hF]
            unfold encI
            rw [List.map_append]
          have dD := dC.ex' eD
          have hqn := dD.new hq'
          have eCF := (eC.trans eD).trans eF
          have xCF := xB.trans (Xd.of dB eCF)
          have hrF := xCF.lst hr9 hrn.1 hrn.2
          have hqr : q' ≠ r := fun e0 => by rw [e0, eD _ _ (eC _ _ (xB.lst hr9 hrn.1 hrn.2))] at hq'; cases hq'
          have htk : us.take (j + 1) = us.take j ++ [ap us j] := by rw [List.take_succ, ap_get hj2]; rfl
          refine ⟨x9.trans xCF, dD.ex' eF, _, _, _, _, _, q', f ++ bl, rfl, xCF.lst hD9 n1 n2, hrF, hLR9.xd xCF, hF2, hqn.1, hqn.2, hqr, ?_⟩
          rw [htk, List.sum_append, ← hbl, pf.len]
          have := block_pm (b := b) pf (show 0 < ap us j by omega)
          simpa using this
      · obtain ⟨x9, d9, p2, p5, p6, p7, p8, q, f, rfl, hD9, hr9, hLR9, hq9, q1, q2, q3, pf⟩ := h
        rw [encI_len, List.take_length] at pf
        walk_at "wp"
        refine ty_list (stL hr9) ?_
        walk_at "wp"
        refine r_app hr9 (smallL (by rw [hLR.1]; omega)) fun HA mA hA => ?_
        refine ⟨x9.mu mA hrH, d9.mu mA hrn.1 hrn.2, _, _, _, _, _, _, _, fs ++ [f], rfl, mA.rest D _ hDr hD9, hA, (hLR9.snoc hq9 q1 q2 q3).mu mA, by rw [List.length_append, hfl]; rfl, fun g hg => ?_⟩
        rcases List.mem_append.mp hg with hg | hg
        · exact hfp g hg
        · rw [List.mem_singleton] at hg
          subst hg
          exact pf
    · obtain ⟨x6, d6, o2, o4, o5, o6, o7, o8, vs, fs, rfl, hD6, hr6, hLR, hfl, hfp⟩ := h
      walk_at "wp"
      have hfl2 : fs.length = 1 + v5 := by
        have h := hfl
        omega
      have hsum : ∀ us : List Nat, (∀ u ∈ us, 2 ≤ u ∧ u ≤ 4) → 2 * us.length ≤ us.sum ∧ us.sum ≤ 4 * us.length := by
        intro us
        induction us with
        | nil => intro _; simp
        | cons u us ih =>
          intro h
          have h1 := ih fun x hx => h x (List.mem_cons_of_mem _ hx)
          have h2 := h u (List.mem_cons_self ..)
          simp only [List.length_cons, List.sum_cons]
          omega
      have hs2 := hsum us hu
      exact k us.sum fs vs r H6 x6 d6 hrn.1 hrn.2 hr6 hLR.lsts (by omega) (by omega) hfp (by omega) (by omega)

end
end Eo
namespace Eo
/-- all lists that are permutations of m things, m at most 4 -/
def ins1 (x : Nat) : List Nat → List (List Nat)
  | [] => [[x]]
  | y :: l => (x :: y :: l) :: (ins1 x l).map (y :: ·)
def perms : Nat → List (List Nat)
  | 0 => [[]]
  | n + 1 => (perms n).flatMap (ins1 n)
theorem mem_ins1 {x : Nat} : ∀ {l m : List Nat}, m ∈ ins1 x l ↔ ∃ a b, l = a ++ b ∧ m = a ++ x :: b
  | [], m => by
    simp only [ins1, List.mem_singleton]
    constructor
    · rintro rfl
      exact ⟨[], [], rfl, rfl⟩
    · rintro ⟨a, b, h, rfl⟩
      have h2 := List.append_eq_nil_iff.mp h.symm
      rw [h2.1, h2.2]
      rfl
  | y :: l, m => by
    simp only [ins1, List.mem_cons, List.mem_map]
    constructor
    · rintro (rfl | ⟨k, hk, rfl⟩)
      · exact ⟨[], y :: l, rfl, rfl⟩
      · obtain ⟨a, b, rfl, rfl⟩ := mem_ins1.mp hk
        exact ⟨y :: a, b, rfl, rfl⟩
    · rintro ⟨a, b, h, rfl⟩
      cases a with
      | nil =>
        simp at h
        subst h
        exact .inl rfl
      | cons z a =>
        simp at h
        obtain ⟨rfl, rfl⟩ := h
        exact .inr ⟨a ++ x :: b, mem_ins1.mpr ⟨a, b, rfl, rfl⟩, rfl⟩
theorem mem_perms : ∀ {n : Nat} {f : List Nat}, Pm n f → f ∈ perms n
  | 0, f, h => by
    have : f = [] := List.length_eq_zero_iff.mp h.len
    subst this
    simp [perms]
  | n + 1, f, h => by
    have hn : n ∈ f := by
      obtain ⟨x, hx, e⟩ := h.surj (show n < n + 1 by omega)
      rw [← e]
      exact ap_mem (by rw [h.len]; exact hx)
    obtain ⟨a, b, rfl⟩ := List.append_of_mem hn
    have hnd := h.nd
    have hl := h.len
    rw [List.length_append, List.length_cons] at hl
    have hp : Pm n (a ++ b) := by
      have hsub : (a ++ b).Sublist (a ++ n :: b) := List.Sublist.append (List.Sublist.refl _) (List.sublist_cons_self n b)
      refine ⟨by rw [List.length_append]; omega, fun x hx => ?_, hnd.sublist hsub⟩
      have h1 := h.lt x (hsub.subset hx)
      have h2 : x ≠ n := fun e => by
        subst e
        rw [List.nodup_append] at hnd
        rcases List.mem_append.mp hx with hx | hx
        · exact hnd.2.2 x hx x (List.mem_cons_self ..) rfl
        · exact (List.nodup_cons.mp hnd.2.1).1 hx
      omega
    exact List.mem_flatMap.mpr ⟨a ++ b, mem_perms hp, mem_ins1.mpr ⟨a, b, rfl, rfl⟩⟩
end Eo
namespace Eo
open PySem PyProof.Rows
def shw (f : List Nat) : Str := (PyData.list ((f.map fun (n : Nat) => (n : Int)).map PyData.int)).shown
theorem shw3 : ((perms 3).map shw).Nodup := by decide +kernel
theorem shw4 : ((perms 4).map shw).Nodup := by decide +kernel
theorem shw_len : ((perms 3 ++ perms 4).all fun f => decide ((shw f).length ≤ 100)) = true := by decide +kernel
end Eo
namespace Eo
open PySem PyProof.Rows L2 L2.DX
/-! words of the walk: wp goes on where nothing is open; hl looks an object up; ex: what stood stands -/
local macro_rules | `(tactic| walk_at "hl") => `(tactic| first | assumption | exact PlT.sq (by assumption) | (refine stT ?_; walk_at "hl") | (refine stL ?_; walk_at "hl") | (refine Ex.at (by assumption) ?_; walk_at "hl") | (refine Mu.tup (by assumption) ?_; walk_at "hl") | (refine Ex.sqT (by assumption) ?_; walk_at "hl") | (refine Ex.sqL (by assumption) ?_; walk_at "hl") | (refine Ex.plT (by assumption) ?_; walk_at "hl") | (refine Mu.plT (by assumption) ?_; walk_at "hl"))
local macro_rules | `(tactic| walk_at "ex") => `(tactic| first | assumption | exact Ex.refl _ | (refine Ex.trans ?_ (by assumption); walk_at "ex") | (refine Ex.mu ?_ (by assumption) (by first | assumption | walk_at "fr"); walk_at "ex"))
local macro_rules | `(tactic| walk_at "fr") => `(tactic| first | assumption | (refine Ex.free (by assumption) ?_; walk_at "fr"))
local macro_rules | `(tactic| walk_at "rf") => `(tactic| with_unfolding_all rfl)
local macro_rules | `(tactic| walk_at "wp") => `(tactic| repeat (with_reducible first
  | refine q_seq ?_ | refine q_asg ?_ | refine q_ret ?_ | refine q_drop ?_ | refine q_if ?_ | refine q_next ?_ | refine q_par ?_ | refine q_par3 ?_ | refine q_retN ?_ | refine q_cont ?_ | refine q_brk ?_
  | refine e_var (by with_unfolding_all rfl) ?_ | refine e_c ?_ | refine e_op ?_ | refine e_cons ?_ | refine e_nil ?_ | refine e_test ?_ | refine e_B ?_ | refine e_yes ?_ | refine e_cb ?_ | refine e_call ?_ | refine e_then ?_ | refine e_tup ?_ | refine e_lst ?_
  | refine x_bl ?_ | refine i_T ?_ | refine i_F ?_ | refine x_two ?_ | refine x_three ?_
  | refine r_I0 ?_ | refine r_add ?_ | refine r_ip ?_ | refine g_nm ?_ | refine r_eqI ?_ | refine r_neI ?_ | refine r_eq (by with_unfolding_all rfl) ?_ | refine r_ne (by with_unfolding_all rfl) ?_
  | refine e_not ?_ | refine e_and ?_ | refine e_or ?_ | refine e_andV ?_ | refine e_orV ?_ | refine e_notV ?_ | refine e_ifx ?_ | refine e_idxF ?_ | refine e_idxI ?_ | refine e_sl ?_ | refine e_part ?_ | refine e_nopart ?_ | refine f_revA ?_ | refine e_lenSet ?_ | refine l_dcT ?_ | refine e_sadd ?_ | refine q_asgS ?_ | refine q_augS ?_ | refine e_tupRg ?_ | refine e_lstRg ?_ | refine e_rg1 ?_ | refine e_rg2 ?_ | refine e_dget ?_ | refine e_din ?_ | refine e_dnotin ?_ | refine e_dget2 ?_ | refine q_dput ?_ | refine e_un ?_ | refine e_chain ?_ | refine e_bm ?_ | refine e_bm0 ?_ | refine e_fld ?_ | refine q_asgT ?_
  | refine l_any ?_ | refine l_tup ?_ | refine l_list ?_ | refine l_rng1 ?_ | refine l_rng2 ?_ | refine l_str ?_ | refine l_enumL ?_ | refine l_enumT ?_ | refine l_zip ?_ | refine l_zipM ?_
  | refine f_tup ?_ | refine f_list ?_ | refine f_rng1 ?_ | refine f_enumL ?_ | refine f_enumT ?_))
local macro_rules | `(tactic| walk_at "sz") => `(tactic| first | decide | (refine small ?_; simp; done) | (refine small ?_; simp; omega) | (refine smallL ?_; simp; done) | (refine smallL ?_; simp; omega) | (simp; done) | (simp; omega))
section
variable {P : Program} {w : World} {K : PySem.W.Frag} {mg : Str → Option Value} {base : Heap} {C : Addr} {A : Nat → Addr} {FD : Nat → FuncData}
theorem shw_ok : ((perms 3 ++ perms 4).all fun f => (PyData.list ((f.map fun (n : Nat) => (n : Int)).map PyData.int)).showable) = true := by decide +kernel
theorem pm34 {m : Nat} {f : List Nat} (hm : m = 3 ∨ m = 4) (h : Pm m f) : f ∈ perms 3 ++ perms 4 := by
  rcases hm with rfl | rfl
  · exact List.mem_append_left _ (mem_perms h)
  · exact List.mem_append_right _ (mem_perms h)
theorem r_reprE {K : PySem.W.Frag} {H : Hp} {Q : VK} {a : Addr} {m : Nat} {f : List Nat} (hm : m = 3 ∨ m = 4) (hf : Pm m f) (h : SqL K H a (encI f)) (k : Q (.str (shw f)) H) : rReprL K [.ref a] H Q := by
  have hp := pm34 hm hf
  rw [encI_ints] at h
  have h1 := List.all_eq_true.mp shw_ok f hp
  have h2 := of_decide_eq_true (List.all_eq_true.mp shw_len f hp)
  exact ⟨a, _, rfl, h, h1, small (Nat.le_trans h2 (by decide)), k⟩
theorem nodup_map_inj {α β : Type} {g : α → β} : ∀ {l : List α}, (l.map g).Nodup → ∀ a ∈ l, ∀ b ∈ l, g a = g b → a = b
  | [], _, a, ha, _, _, _ => by cases ha
  | x :: l, h, a, ha, b, hb, e => by
    rw [List.map_cons, List.nodup_cons] at h
    rcases List.mem_cons.mp ha with e1 | ha'
    · rcases List.mem_cons.mp hb with e2 | hb'
      · rw [e1, e2]
      · exact absurd (List.mem_map.mpr ⟨b, hb', by rw [← e, e1]⟩) h.1
    · rcases List.mem_cons.mp hb with e2 | hb'
      · exact absurd (List.mem_map.mpr ⟨a, ha', by rw [e, e2]⟩) h.1
      · exact nodup_map_inj h.2 a ha' b hb' e
theorem shw_inj {m : Nat} {f g : List Nat} (hm : m = 3 ∨ m = 4) (hf : Pm m f) (hg : Pm m g) (e : shw f = shw g) : f = g := by
  rcases hm with rfl | rfl
  · exact nodup_map_inj shw3 f (mem_perms hf) g (mem_perms hg) e
  · exact nodup_map_inj shw4 f (mem_perms hf) g (mem_perms hg) e
theorem few24 {m : Nat} {F : List (List Nat)} (hm : m = 3 ∨ m = 4) (nd : F.Nodup) (h : ∀ f ∈ F, Pm m f) : F.length ≤ 24 := by
  rcases hm with rfl | rfl
  · exact Nat.le_trans (sub_len nd fun f hf => mem_perms (h f hf)) (by decide)
  · exact Nat.le_trans (sub_len nd fun f hf => mem_perms (h f hf)) (by decide)
theorem LR.other {H H' : Hp} {l c r d : Addr} {vs : List V} {fs : List (List Nat)} {kvs : List (Key × V)} (h : LR H l c r vs fs) (m : Mu d H H') (hd : H d = some (.dK kvs)) : LR H' l c r vs fs := ⟨h.1, fun i f hi => let ⟨q, h1, h2, h3⟩ := h.2 i f hi; ⟨q, h1, m.rest q _ (ne_obj h2 hd fun e => nomatch e) h2, h3⟩⟩
/-- the places of what is found -/
def PlcAt (H : Hp) (d : Addr) (m : Nat) (F : List (List Nat)) : Prop := ∃ kvs : List (Key × V), H d = some (.dK kvs) ∧ kvs.length ≤ F.length ∧ ∀ f, Pm m f → valV kvs (Sum.inr (shw f)) = if f ∈ F then some (.int ((F.idxOf f : Nat) : Int)) else none
theorem PlcAt.ex {H H' : Hp} {d : Addr} {m : Nat} {F : List (List Nat)} (h : PlcAt H d m F) (e : Ex H H') : PlcAt H' d m F := let ⟨kvs, h1, h2⟩ := h; ⟨kvs, e _ _ h1, h2⟩
theorem PlcAt.put {m : Nat} {F : List (List Nat)} {kvs : List (Key × V)} (hm : m = 3 ∨ m = 4) (hF : ∀ f ∈ F, Pm m f) {g : List Nat} (hg : Pm m g) (hn : g ∉ F) (h : ∀ f, Pm m f → valV kvs (Sum.inr (shw f)) = if f ∈ F then some (.int ((F.idxOf f : Nat) : Int)) else none) :
    ∀ f, Pm m f → valV (putK kvs (Sum.inr (shw g)) (.int (F.length : Nat))) (Sum.inr (shw f)) = if f ∈ F ++ [g] then some (.int (((F ++ [g]).idxOf f : Nat) : Int)) else none := fun f pf => by
  rw [valV_put]
  by_cases hfg : f = g
  · subst hfg
    rw [if_pos rfl, if_pos (by simp), List.idxOf_append, if_neg hn]
    simp
  · have hne : ¬ ((Sum.inr (shw f) : Key) = Sum.inr (shw g)) := fun e => hfg (shw_inj hm pf hg (Sum.inr.inj e))
    rw [if_neg hne, h f pf]
    by_cases hfF : f ∈ F
    · rw [if_pos hfF, if_pos (List.mem_append_left _ hfF), List.idxOf_append, if_pos hfF]
    · rw [if_neg hfF, if_neg (fun h => by
        rcases List.mem_append.mp h with h | h
        · exact hfF h
        · exact hfg (by simpa using h))]
def sp_L_regular : Sp := fun vs H Q _ => ∃ (l c t : Addr) (m : Nat) (ws : List V) (fs : List (List Nat)), vs = [.ref t] ∧ DealAt H l c ∧ H t = some (.lst ws) ∧ t ≠ l ∧ t ≠ c ∧ LstsAt H l c ws fs ∧ 0 < fs.length ∧ fs.length ≤ 3 ∧ (∀ f ∈ fs, Pm m f) ∧ (m = 3 ∨ m = 4) ∧ Shp l c H Q
theorem ok_L_regular (T : Tx K mg C A FD) : (FnG P w K mg base CX0 2 (A 48) (FD 48) ["_law_turns"] sp_L_regular) := by
  refine okG T.d_L_regular.F sc_L_regular (fun vs H Q E h => by obtain ⟨l, c, t, m, ws, fs, rfl, hd, ht, t1, t2, hf, h0, h3, hpm, hm, k⟩ := h; rfl) (fun cdv A0 outer s H vs Q E gd hr h => ?_)
  obtain ⟨l, c, t, m, ws, fs, rfl, hd, ht, t1, t2, hf, h0, h3, hpm, hm, k⟩ := h
  have hu := hu_of hr
  have hu64 := hr.units
  have hu2 : _ + 65 < cLine := (fun {A : Around} {k} (hr : Room k A) => (by have := hr.un; omega : A.units + 65 < cLine)) hr
  refine ⟨_, (pss_cons (ps_asg (pe_tup (pa_cons (pe_lst (pa_cons (pe_listRg rfl (by rfl) T.z_list (prg_1 (by rfl) T.z_range (pe_callB (kcall_len K) (by rfl) T.z_len (by decide +kernel) (pa_cons (pe_ix (kix_list K) (pv 0) pe_int (fun _ _ => rfl)) pa_nil)))) pa_nil)) (pa_cons (pe_disp (pps_cons (pe_callB (kcr_reprL K gd hu64) (by rfl) T.z_repr (by decide +kernel) (pa_cons (pe_listRg rfl (by rfl) T.z_list (prg_1 (by rfl) T.z_range (pe_callB (kcall_len K) (by rfl) T.z_len (by decide +kernel) (pa_cons (pe_ix (kix_list K) (pv 0) pe_int (fun _ _ => rfl)) pa_nil)))) pa_nil)) pe_int pps_nil) (by rfl) (by rfl) (fun z => by cases z) (by decide)) pa_nil))) (kpg_tup K (n := 2) (by rfl) (pgs_cons (pg_name (i := 1) sc_L_regular.nd rfl (by first | exact .inl rfl | exact .inr rfl)) (pgs_cons (pg_name (i := 2) sc_L_regular.nd rfl (by first | exact .inl rfl | exact .inr rfl)) pgs_nil))))
    (pss_cons (ps_for PassesOwn.never rfl (pi_range1 (by rfl) T.z_range (pa_cons pe_int pa_nil)) (pg_name (i := 3) sc_L_regular.nd rfl (by first | exact .inl rfl | exact .inr rfl)) (pss_one (ps_for PassesOwn.never rfl (kpi_list K (pe_ifExp (pt_cmpR op_lt (pv 3) (pe_callB (kcall_len K) (by rfl) T.z_len (by decide +kernel) (pa_cons (pv 1) pa_nil)) (nomark _)) (pv 0) (pe_lst pa_nil))) (pg_name (i := 4) sc_L_regular.nd rfl (by first | exact .inl rfl | exact .inr rfl)) (pss_cons (ps_set (i := 5) sc_L_regular.nd rfl (.inl rfl) (pe_call (ok_L_then T) (hr.mono (by decide)) (by rfl) T.d_L_then.g T.d_L_then.F.kp T.d_L_then.b .nil pass0 (pa_cons (pe_ix (kix_list K) (pv 1) (pv 3) (fun _ _ => rfl)) (pa_cons (pv 4) pa_nil))))
        (pss_one (ps_if (pt_cmp (pc_dnotin hu (pe_callB (kcr_reprL K gd hu64) (by rfl) T.z_repr (by decide +kernel) (pa_cons (pv 5) pa_nil)) (pv 2))) (pss_cons (ps_dput hu (pv 2) (pe_callB (kcr_reprL K gd hu64) (by rfl) T.z_repr (by decide +kernel) (pa_cons (pv 5) pa_nil)) (pe_callB (kcall_len K) (by rfl) T.z_len (by decide +kernel) (pa_cons (pv 1) pa_nil)) rfl)
          (pss_one (ps_expr (kpe_bm K PySem.F.plainAttrs_list PySem.F.slot_list_append PySem.F.type_list_append mt_append (pv 1) (pa_cons (pv 5) pa_nil))))) pss_nil))))))
    (pss_cons (ps_if (pt_cmpR op_lt (pe_callB (kcall_len K) (by rfl) T.z_len (by decide +kernel) (pa_cons (pv 1) pa_nil)) pe_int (nomark _)) (pss_one (ps_ret (pe_lc rfl sc_L_regular.nd (kpi_list K (pv 0)) (blkOk_by (own := [("_law_one", 4)]) (N := N_L_regular) (sc := defScope s_L_regular) (by decide +kernel)) (fun _ _ _ _ _ => (pg_name (i := 4) sc_L_regular.nd rfl (by first | exact .inl rfl | exact .inr rfl))) (fun _ _ _ _ _ => pts_nil) (fun _ _ _ _ _ => (pe_lst (pa_cons pe_int (pa_cons pe_int pa_nil))))))) pss_nil)
    (pss_one (ps_ret (pe_lc rfl sc_L_regular.nd (kpi_list K (pv 0)) (blkOk_by (own := [("_law_one", 4)]) (N := N_L_regular) (sc := defScope s_L_regular) (by decide +kernel)) (fun _ _ _ _ _ => (pg_name (i := 4) sc_L_regular.nd rfl (by first | exact .inl rfl | exact .inr rfl))) (fun _ _ _ _ _ => pts_nil) (fun _ _ _ _ _ => (pe_lc rfl sc_L_regular.nd (kpi_list K (pv 1)) (blkOk_by (own := [("_law_made", 5)]) (N := N_L_regular) (by with_unfolding_all rfl)) (fun _ _ _ _ _ => (pg_name (i := 5) sc_L_regular.nd rfl (by first | exact .inl rfl | exact .inr rfl))) (fun _ _ _ _ _ => pts_nil) (fun _ _ _ _ _ => (pe_dget hu (pv 2) (pe_callB (kcr_reprL K gd hu64) (by rfl) T.z_repr (by decide +kernel) (pa_cons (pe_call (ok_L_then T) (hr.mono (by decide)) (by rfl) T.d_L_then.g T.d_L_then.F.kp T.d_L_then.b .nil pass0 (pa_cons (pv 5) (pa_cons (pv 4) pa_nil))) pa_nil)) (fun _ _ => rfl))))))))))), ?_⟩
  clear hu hu64 hu2
  walk_at "wp"
  obtain ⟨f0, hf0⟩ : ∃ f, fs[0]? = some f := ⟨_, List.getElem?_eq_getElem h0⟩
  obtain ⟨q0, g1, g2, _⟩ := hf.2 0 f0 hf0
  have pf0 := hpm _ (List.mem_of_getElem? hf0)
  refine r_ixL (n := 0) (stL ht) (atI_ok (n := 0) g1) ?_
  walk_at "wp"
  refine r_lenL (stL g2) ?_
  rw [encI_len, pf0.len]
  refine ⟨_, rfl, r_rgL (n := m) (by omega) fun a1 H1 ha1 e1 h1 => ?_⟩
  walk_at "wp"
  refine al (by walk_at "sz") fun r H2 hr e2 h2 => ?_
  walk_at "wp"
  have e12 := e1.trans e2
  intro pd hpd
  refine e_pairs1 ?_
  have e3 : Ex H2 (upd H2 pd (.dK [])) := Ex.new hpd
  have hpd3 : upd H2 pd (.dK []) pd = some (.dK []) := upd_same
  generalize upd H2 pd (.dK []) = H3 at e3 hpd3
  walk_at "wp"
  have e13 := e12.trans e3
  refine r_ixL (n := 0) (stL (e13 _ _ ht)) (atI_ok (n := 0) g1) ?_
  walk_at "wp"
  refine r_lenL (stL (e13 _ _ g2)) ?_
  rw [encI_len, pf0.len]
  refine ⟨_, rfl, r_rgL (n := m) (by omega) fun a4 H4 ha4 e4 h4 => ?_⟩
  walk_at "wp"
  refine r_reprE hm (Pm.idn m) (stL h4) ?_
  walk_at "wp"
  refine ⟨e4 _ _ hpd3, [(Sum.inr (shw (idn m)), .int 0)], rfl, by walk_at "sz", ?_⟩
  generalize hH5 : upd H4 pd (.dK (mergeK [] [(Sum.inr (shw (idn m)), V.int 0)])) = H5
  have m5 : Mu pd H4 H5 := by rw [← hH5]; exact Mu.of (e4 _ _ hpd3) rfl
  have pd5 : H5 pd = some (.dK [(Sum.inr (shw (idn m)), V.int 0)]) := by rw [← hH5]; exact upd_same
  clear hH5
  have hpdH : H pd = none := e12.free hpd
  have e25 : Ex H2 H5 := (e3.trans e4).mu m5 hpd
  walk_at "wp"
  refine al (by walk_at "sz") fun tt H6 htt e6 h6 => ?_
  refine g_two (stT h6) ?_
  walk_at "wp"
  have e26 := e25.trans e6
  have e06 := e12.trans e26
  have hrH : H r = none := e1.free hr
  have hrpd : r ≠ pd := ne_obj (e25 _ _ h2) pd5 (fun e => nomatch e)
  have ha1n := hd.new ha1
  have hrn := (hd.ex' e1).new hr
  have ha1r : a1 ≠ r := ne_of_none h1 hr
  have d6 := hd.ex' e06
  have mle : m ≤ 4 := by omega
  have id0 : ∀ f, Pm m f → valV [((Sum.inr (shw (idn m)) : Key), V.int 0)] (Sum.inr (shw f)) = if f ∈ [idn m] then some (.int (([idn m].idxOf f : Nat) : Int)) else none := fun f pf => by
    by_cases hfi : f = idn m
    · subst hfi
      rw [valV_pos rfl, if_pos (by simp)]
      simp
    · rw [valV_neg (fun e => hfi (shw_inj hm pf (Pm.idn m) (Sum.inr.inj e).symm)), if_neg (by simpa using hfi)]
      rfl
  refine ⟨24, rfl, by decide, by decide, fr_W walk_range (fun i σ H7 => Ex H H7 ∧ ∃ (o3 o4 o5 : Option V) (vs : List V) (F : List (List Nat)), σ = [some (.ref t), some (.ref r), some (.ref pd), o3, o4, o5] ∧ H7 r = some (.lst vs) ∧ LR H7 l c r vs F ∧ PlcAt H7 pd m F ∧ F.Nodup ∧ (∀ f ∈ F, Pm m f) ∧ F[0]? = some (idn m) ∧ ∀ (j : Nat) f, j < i → F[j]? = some f → ∀ g ∈ fs, cmp f g ∈ F)
    ⟨e06, _, _, _, [.ref a1], [idn m], rfl, e26 _ _ h2, ?_, ⟨_, e6 _ _ pd5, Nat.le_refl 1, id0⟩, by simp, fun f hf => by rw [List.mem_singleton] at hf; subst hf; exact Pm.idn m, rfl, fun j f hj => by omega⟩ (fun _ _ _ _ _ => trivial) (fun i x σ H7 H8 hi h y => ?_) (fun σ H7 h => ?_)⟩
  · exact (LR.nil H6 l c r).snoc (e26 _ _ (e2 _ _ h1)) ha1n.1 ha1n.2 ha1r
  · obtain ⟨e7, o3, o4, o5, vs, F, rfl, hr7, hLR, hPl, nd, hFp, hF0, hcl⟩ := h
    obtain ⟨rfl, rfl⟩ := y_rng y
    walk_at "wp"
    refine r_lenL (stL hr7) ?_
    rw [hLR.1]
    walk_at "wp"
    have F24 := few24 hm nd hFp
    refine i_d (fun h => ?_) (fun h => ?_)
    · have hiF : i < F.length := by omega
      obtain ⟨f, hfi⟩ : ∃ f, F[i]? = some f := ⟨_, List.getElem?_eq_getElem hiF⟩
      have pf := hFp f (List.mem_of_getElem? hfi)
      walk_at "wp"
      refine ⟨t, rfl, ⟨_, stL (e7 _ _ ht)⟩, fr_W walk_list (fun j σ HA => Ex H HA ∧ ∃ (o4 o5 : Option V) (vs : List V) (F' : List (List Nat)), σ = [some (.ref t), some (.ref r), some (.ref pd), some (.int (i : Nat)), o4, o5] ∧ HA r = some (.lst vs) ∧ LR HA l c r vs F' ∧ PlcAt HA pd m F' ∧ F'.Nodup ∧ (∀ f ∈ F', Pm m f) ∧ (∀ k, k ≤ i → F'[k]? = F[k]?) ∧ (∀ f ∈ F, f ∈ F') ∧ ∀ (u : Nat) g, u < j → fs[u]? = some g → cmp f g ∈ F')
        ⟨e7, _, _, vs, F, rfl, hr7, hLR, hPl, nd, hFp, fun _ _ => rfl, fun _ h => h, fun u g hu => by omega⟩ (fun j σ HA hj h => stL (h.1 _ _ ht)) (fun j x σ HA HB hj h y => ?_) (fun σ HA h => ?_)⟩
      · obtain ⟨eA, p4, p5, vs, F', rfl, hrA, hLA, hPA, ndA, hpA, hsame, hsub, hdone⟩ := h
        obtain ⟨rfl, hx⟩ := y
        have hjf : j < fs.length := by rw [← hf.1]; exact hj
        obtain ⟨g, hgj⟩ : ∃ g, fs[j]? = some g := ⟨_, List.getElem?_eq_getElem hjf⟩
        obtain ⟨qg, hqg, hqg2, _⟩ := (hf.ex eA).2 j g hgj
        rw [hx] at hqg
        cases hqg
        have pg := hpm g (List.mem_of_getElem? hgj)
        have hfi' : F'[i]? = some f := by rw [hsame i (Nat.le_refl _)]; exact hfi
        obtain ⟨qf, hqf, hqf2, _⟩ := hLA.2 i f hfi'
        have pfg : Pm m (cmp f g) := pf.cmp pg
        have FA24 := few24 hm ndA hpA
        walk_at "wp"
        refine r_ixL (n := i) (stL hrA) (atI_ok hqf) ?_
        walk_at "wp"
        refine ⟨qf, qg, f, g, rfl, .inl hqf2, .inl hqg2, fun y hy => by rw [pg.len]; exact pf.lt y hy, by rw [pf.len]; omega, fun mp HC hmp eC hC => ?_⟩
        walk_at "wp"
        refine r_reprE hm pfg (stL hC) ?_
        walk_at "wp"
        obtain ⟨kvs, hk1, hkl, hk2⟩ := hPA.ex eC
        refine ⟨pd, _, rfl, dget_S hk1 (hk2 _ pfg), ?_⟩
        have next : ∀ {F2 : List (List Nat)}, (∀ f ∈ F', f ∈ F2) → cmp f g ∈ F2 → ∀ (u : Nat) g', u < j + 1 → fs[u]? = some g' → cmp f g' ∈ F2 := fun h1 h2 u g' hu hg' => by
          by_cases hu2 : u < j
          · exact h1 _ (hdone u g' hu2 hg')
          · have : u = j := by omega
            subst this
            rw [hgj] at hg'
            cases hg'
            exact h2
        by_cases hin : cmp f g ∈ F'
        · rw [if_pos hin]
          walk_at "wp"
          refine i_F ?_
          walk_at "wp"
          exact ⟨eA.trans eC, _, _, vs, F', rfl, eC _ _ hrA, hLA.ex eC, ⟨kvs, hk1, hkl, hk2⟩, ndA, hpA, hsame, hsub, next (fun _ h => h) hin⟩
        · rw [if_neg hin]
          walk_at "wp"
          refine i_T ?_
          walk_at "wp"
          refine r_lenL (stL (eC _ _ hrA)) ?_
          rw [hLA.1]
          walk_at "wp"
          refine r_reprE hm pfg (stL hC) ?_
          refine ⟨pd, _, rfl, DPut.k (k := Sum.inr (shw (cmp f g))) hk1 (smallL (by omega)), ?_⟩
          generalize hHD : upd HC pd (.dK (putK kvs (Sum.inr (shw (cmp f g))) (.int ((F'.length : Nat) : Int)))) = HD
          have mD : Mu pd HC HD := by rw [← hHD]; exact Mu.of hk1 rfl
          have pdD : HD pd = some (.dK (putK kvs (Sum.inr (shw (cmp f g))) (.int ((F'.length : Nat) : Int)))) := by rw [← hHD]; exact upd_same
          clear hHD
          walk_at "wp"
          have hrD := mD.rest r _ hrpd (eC _ _ hrA)
          refine ty_list (stL hrD) ?_
          walk_at "wp"
          refine r_app hrD (smallL (by rw [hLA.1]; omega)) fun HE mE hE => ?_
          have hmpn := (hd.ex' eA).new hmp
          have hmpr : mp ≠ r := fun e0 => by rw [e0, hrA] at hmp; cases hmp
          have hmpD := mD.rest mp _ (ne_obj hC hk1 fun e => nomatch e) hC
          have hlen2 := length_putK kvs (Sum.inr (shw (cmp f g))) (V.int ((F'.length : Nat) : Int))
          refine ⟨((eA.trans eC).mu mD hpdH).mu mE hrH, _, _, _, F' ++ [cmp f g], rfl, hE, ((((hLA.ex eC).other mD hk1).snoc hmpD hmpn.1 hmpn.2 hmpr).mu mE), ⟨_, mE.rest pd _ (Ne.symm hrpd) pdD, by rw [List.length_append, List.length_singleton]; omega, PlcAt.put hm hpA pfg hin hk2⟩, ?_, fun f' hf' => ?_, fun k hk => ?_, fun f' hf' => List.mem_append_left _ (hsub f' hf'), next (fun _ h => List.mem_append_left _ h) (List.mem_append_right _ (by simp))⟩
          · rw [List.nodup_append]
            exact ⟨ndA, by simp, fun x hx y hy e => by rw [List.mem_singleton] at hy; subst hy; subst e; exact hin hx⟩
          · rcases List.mem_append.mp hf' with h | h
            · exact hpA f' h
            · rw [List.mem_singleton] at h
              subst h
              exact pfg
          · have hl := (List.getElem?_eq_some_iff.mp hfi').1
            rw [List.getElem?_append_left (by omega)]
            exact hsame k hk
      · obtain ⟨eA, p4, p5, vs, F', rfl, hrA, hLA, hPA, ndA, hpA, hsame, hsub, hdone⟩ := h
        refine ⟨eA, _, _, _, vs, F', rfl, hrA, hLA, hPA, ndA, hpA, by rw [hsame 0 (by omega)]; exact hF0, fun k f' hk hf' g hg => ?_⟩
        rw [hsame k (by omega)] at hf'
        by_cases hki : k = i
        · subst hki
          rw [hfi] at hf'
          cases hf'
          obtain ⟨u, hu, e0⟩ := List.getElem_of_mem hg
          exact hdone u g (by rw [hf.1]; exact hu) (by rw [List.getElem?_eq_getElem hu, e0])
        · exact hsub _ (hcl k f' (by omega) hf' g hg)
    · walk_at "wp"
      refine al (by walk_at "sz") fun el H9 hel e9 h9 => ?_
      refine ⟨el, rfl, ⟨_, stL h9⟩, fr_W walk_list (fun j σ HA => HA = H9 ∧ ∃ (o4 o5 : Option V), σ = [some (.ref t), some (.ref r), some (.ref pd), some (.int (i : Nat)), o4, o5]) ⟨rfl, _, _, rfl⟩ (fun j σ HA hj h => by rw [h.1]; exact stL h9) (fun j x σ HA HB hj h y => by simp at hj) (fun σ HA h => ?_)⟩
      obtain ⟨rfl, p4, p5, rfl⟩ := h
      refine ⟨e7.trans e9, _, _, _, vs, F, rfl, e9 _ _ hr7, hLR.ex e9, hPl.ex e9, nd, hFp, hF0, fun j f hj hf => ?_⟩
      have := (List.getElem?_eq_some_iff.mp hf).1
      exact hcl j f (by omega) hf
  · obtain ⟨e7, o3, o4, o5, vs, F, rfl, hr7, hLR, hPl, nd, hFp, hF0, hcl⟩ := h
    have F24 := few24 hm nd hFp
    have d7 := hd.ex' e7
    have ht7 := e7 _ _ ht
    walk_at "wp"
    refine r_lenL (stL hr7) ?_
    rw [hLR.1]
    walk_at "wp"
    have fresh : ∀ {H8 : Hp} {D p : Addr} {acc : List V}, Ex H7 H8 → H8 D = some (.lst acc) → H8 p = none → p ≠ l ∧ p ≠ c ∧ p ≠ D := fun e8 hD hp => by
      have := (d7.ex' e8).new hp
      exact ⟨this.1, this.2, fun e0 => by rw [e0, hD] at hp; cases hp⟩
    refine i_d (fun hlt => ?_) (fun hlt => ?_)
    · walk_at "wp"
      refine ⟨t, rfl, ⟨_, stL ht7⟩, lc_J (fun D i acc H' => LR H' l c D acc (List.replicate i [1, 0])) (wk_list (stL ht7)) (by rw [hf.1]; omega) (fun D H1 _ _ => LR.nil _ _ _ _) (fun D i acc H1 H2 e h => h.keep fun b o _ _ h3 h4 => e b o h3 h4) (fun D i acc x H8 H9 hi e8 hD hI y R N hR hN => ?_) fun D acc H8 hD e8 hDl hal hI => ?_⟩
      · obtain ⟨rfl, hx⟩ := y
        refine ⟨rfl, ?_⟩
        walk_at "wp"
        refine al (by walk_at "sz") fun p HA hp eA hA => ?_
        obtain ⟨p1, p2, p3⟩ := fresh e8 hD hp
        refine hR _ HA eA ?_
        rw [List.replicate_succ']
        exact (hI.ex eA).snoc hA p1 p2 p3
      · have hDn := d7.new hD
        refine k 2 _ acc D H8 (Xd.of hd (e7.trans e8)) (d7.ex' e8) hDn.1 hDn.2 hDl hI.lsts (by rw [List.length_replicate, hf.1]; exact h0) (by rw [List.length_replicate, hf.1]; exact h3) (fun f hf => ?_) (by omega) (by omega)
        rw [(List.mem_replicate.mp hf).2]
        exact pm_of (by decide)
    · walk_at "wp"
      have hcl2 : ∀ f ∈ F, ∀ g ∈ fs, cmp f g ∈ F := fun f hf g hg => by
        obtain ⟨j, hj, e0⟩ := List.getElem_of_mem hf
        have h24 : j < (24 : Int).toNat := by
          show j < 24
          omega
        exact hcl j f h24 (by rw [List.getElem?_eq_getElem hj, e0]) g hg
      refine ⟨t, rfl, ⟨_, stL ht7⟩, lc_J (fun D i acc H' => LR H' l c D acc ((fs.take i).map fun g => F.map fun f => F.idxOf (cmp f g))) (wk_list (stL ht7)) (by rw [hf.1]; omega) (fun D H1 _ _ => LR.nil _ _ _ _) (fun D i acc H1 H2 e h => h.keep fun b o _ _ h3 h4 => e b o h3 h4) (fun D i acc x H8 H9 hi e8 hD hI y R N hR hN => ?_) fun D acc H8 hD e8 hDl hal hI => ?_⟩
      · obtain ⟨rfl, hx⟩ := y
        have hif : i < fs.length := by rw [← hf.1]; exact hi
        obtain ⟨g, hgi⟩ : ∃ g, fs[i]? = some g := ⟨_, List.getElem?_eq_getElem hif⟩
        obtain ⟨qg, hqg, hqg2, _⟩ := (hf.ex (e7.trans e8)).2 i g hgi
        rw [hx] at hqg
        cases hqg
        have hgm := List.mem_of_getElem? hgi
        have pg := hpm g hgm
        refine ⟨rfl, ?_⟩
        walk_at "wp"
        have hr8 := e8 _ _ hr7
        have hL8 := hLR.ex e8
        have hP8 := hPl.ex e8
        refine ⟨r, rfl, ⟨_, stL hr8⟩, lc_V (encI (F.map fun f => F.idxOf (cmp f g))) (wk_list (stL hr8)) (by rw [hLR.1]; omega) (by rw [encI_len, List.length_map, hLR.1]) (fun j y z HA HB hz eA hy R2 hR2 => ?_) fun D2 HA hD2 eA hD2l => ?_⟩
        · obtain ⟨rfl, hy⟩ := hy
          obtain ⟨hj, rfl⟩ := encI_at hz
          rw [List.length_map] at hj
          obtain ⟨qf, hqf, hqf2, _⟩ := (hL8.ex eA).2 j _ (List.getElem?_eq_getElem hj)
          rw [hy] at hqf
          cases hqf
          have pf := hFp _ (List.getElem_mem hj)
          have pfg : Pm m (cmp F[j] g) := pf.cmp pg
          refine ⟨rfl, ?_⟩
          walk_at "wp"
          refine ⟨qf, qg, F[j], g, rfl, .inl hqf2, .inl (eA _ _ hqg2), fun y hy => by rw [pg.len]; exact pf.lt y hy, by rw [pf.len]; omega, fun mp HC hmp eC hC => ?_⟩
          walk_at "wp"
          refine r_reprE hm pfg (stL hC) ?_
          obtain ⟨kvs, hk1, hkl, hk2⟩ := (hP8.ex eA).ex eC
          have hv := hk2 _ pfg
          rw [if_pos (hcl2 _ (List.getElem_mem hj) g hgm)] at hv
          refine ⟨pd, _, rfl, dget_S hk1 hv, ?_⟩
          rw [ap_mapN hj] at hR2
          exact hR2 HC eC
        · have hD8 := hD
          obtain ⟨p1, p2, p3⟩ := fresh e8 hD hD2
          refine hR _ HA eA ?_
          have htk : fs.take (i + 1) = fs.take i ++ [g] := by rw [List.take_succ, hgi]; rfl
          rw [htk, List.map_append]
          exact (hI.ex eA).snoc hD2l p1 p2 p3
      · have hDn := d7.new hD
        rw [hf.1, List.take_length] at hI
        refine k F.length _ acc D H8 (Xd.of hd (e7.trans e8)) (d7.ex' e8) hDn.1 hDn.2 hDl hI.lsts (by rw [List.length_map]; exact h0) (by rw [List.length_map]; exact h3) (fun f' hf' => ?_) (by omega) F24
        obtain ⟨g, hg, rfl⟩ := List.mem_map.mp hf'
        have pg := hpm g hg
        refine Pm.of_inj ⟨by rw [List.length_map], fun x hx => ?_⟩ fun x y hx hy e => ?_
        · obtain ⟨f, hf, rfl⟩ := List.mem_map.mp hx
          exact List.idxOf_lt_length_of_mem (hcl2 f hf g hg)
        · rw [ap_mapN hx, ap_mapN hy] at e
          have m1 := hcl2 _ (List.getElem_mem hx) g hg
          have m2 := hcl2 _ (List.getElem_mem hy) g hg
          have h1 : cmp F[x] g = cmp F[y] g := by
            have l1 := List.idxOf_lt_length_of_mem m1
            have l2 := List.idxOf_lt_length_of_mem m2
            rw [← List.getElem_idxOf l1, ← List.getElem_idxOf l2]
            congr 1
          have h2 := cancel_r pg (hFp _ (List.getElem_mem hx)).ef (hFp _ (List.getElem_mem hy)).ef h1
          exact nd_inj nd hx hy h2

end
end Eo
namespace Eo
open PySem PyProof.Rows L2 L2.DX
/-! words of the walk: wp goes on where nothing is open; hl looks an object up; ex: what stood stands -/
local macro_rules | `(tactic| walk_at "hl") => `(tactic| first | assumption | exact PlT.sq (by assumption) | (refine stT ?_; walk_at "hl") | (refine stL ?_; walk_at "hl") | (refine Ex.at (by assumption) ?_; walk_at "hl") | (refine Mu.tup (by assumption) ?_; walk_at "hl") | (refine Ex.sqT (by assumption) ?_; walk_at "hl") | (refine Ex.sqL (by assumption) ?_; walk_at "hl") | (refine Ex.plT (by assumption) ?_; walk_at "hl") | (refine Mu.plT (by assumption) ?_; walk_at "hl"))
local macro_rules | `(tactic| walk_at "ex") => `(tactic| first | assumption | exact Ex.refl _ | (refine Ex.trans ?_ (by assumption); walk_at "ex") | (refine Ex.mu ?_ (by assumption) (by first | assumption | walk_at "fr"); walk_at "ex"))
local macro_rules | `(tactic| walk_at "fr") => `(tactic| first | assumption | (refine Ex.free (by assumption) ?_; walk_at "fr"))
local macro_rules | `(tactic| walk_at "rf") => `(tactic| with_unfolding_all rfl)
local macro_rules | `(tactic| walk_at "wp") => `(tactic| repeat (with_reducible first
  | refine q_seq ?_ | refine q_asg ?_ | refine q_ret ?_ | refine q_drop ?_ | refine q_if ?_ | refine q_next ?_ | refine q_par ?_ | refine q_par3 ?_ | refine q_retN ?_ | refine q_cont ?_ | refine q_brk ?_
  | refine e_var (by with_unfolding_all rfl) ?_ | refine e_c ?_ | refine e_op ?_ | refine e_cons ?_ | refine e_nil ?_ | refine e_test ?_ | refine e_B ?_ | refine e_yes ?_ | refine e_cb ?_ | refine e_call ?_ | refine e_then ?_ | refine e_tup ?_ | refine e_lst ?_
  | refine x_bl ?_ | refine i_T ?_ | refine i_F ?_ | refine x_two ?_ | refine x_three ?_
  | refine r_I0 ?_ | refine r_add ?_ | refine r_ip ?_ | refine g_nm ?_ | refine r_eqI ?_ | refine r_neI ?_ | refine r_eq (by with_unfolding_all rfl) ?_ | refine r_ne (by with_unfolding_all rfl) ?_
  | refine e_not ?_ | refine e_and ?_ | refine e_or ?_ | refine e_andV ?_ | refine e_orV ?_ | refine e_notV ?_ | refine e_ifx ?_ | refine e_idxF ?_ | refine e_idxI ?_ | refine e_sl ?_ | refine e_part ?_ | refine e_nopart ?_ | refine f_revA ?_ | refine e_lenSet ?_ | refine l_dcT ?_ | refine e_sadd ?_ | refine q_asgS ?_ | refine q_augS ?_ | refine e_tupRg ?_ | refine e_lstRg ?_ | refine e_rg1 ?_ | refine e_rg2 ?_ | refine e_dget ?_ | refine e_din ?_ | refine e_dnotin ?_ | refine e_dget2 ?_ | refine q_dput ?_ | refine e_un ?_ | refine e_chain ?_ | refine e_bm ?_ | refine e_bm0 ?_ | refine e_fld ?_ | refine q_asgT ?_
  | refine l_any ?_ | refine l_tup ?_ | refine l_list ?_ | refine l_rng1 ?_ | refine l_rng2 ?_ | refine l_str ?_ | refine l_enumL ?_ | refine l_enumT ?_ | refine l_zip ?_ | refine l_zipM ?_
  | refine f_tup ?_ | refine f_list ?_ | refine f_rng1 ?_ | refine f_enumL ?_ | refine f_enumT ?_))
local macro_rules | `(tactic| walk_at "sz") => `(tactic| first | decide | (refine small ?_; simp; done) | (refine small ?_; simp; omega) | (refine smallL ?_; simp; done) | (refine smallL ?_; simp; omega) | (simp; done) | (simp; omega))
section
variable {P : Program} {w : World} {K : PySem.W.Frag} {mg : Str → Option Value} {base : Heap} {C : Addr} {A : Nat → Addr} {FD : Nat → FuncData}
theorem Shp.pre {l c : Addr} {H H1 : Hp} {Q : VK} (x : Xd l c H H1) (k : Shp l c H Q) : Shp l c H1 Q := fun n fs ws p H' x' d' p1 p2 hp hl h0 h3 hpm h2 h24 => k n fs ws p H' (x.trans x') d' p1 p2 hp hl h0 h3 hpm h2 h24
theorem ok_L_shape (T : Tx K mg C A FD) : (FnG P w K mg base CX0 4 (A 54) (FD 54) ["_law_deal_here"] sp_shape) := by
  refine okG T.d_L_shape.F sc_L_shape (fun vs H Q E h => by obtain ⟨l, c, rfl, hd, k⟩ := h; rfl) (fun cdv A0 outer s H vs Q E gd hr h => ?_)
  obtain ⟨l, c, rfl, hd, k⟩ := h
  have hu := hu_of hr
  have hu64 := hr.units
  have hu2 : _ + 65 < cLine := (fun {A : Around} {k} (hr : Room k A) => (by have := hr.un; omega : A.units + 65 < cLine)) hr
  refine ⟨_, (pss_cons (ps_set (i := 1) sc_L_shape.nd rfl (.inl rfl) (pe_call (ok_L_any T) (hr.mono (by decide)) (by rfl) T.d_L_any.g T.d_L_any.F.kp T.d_L_any.b .nil pass0 (pa_cons (pv 0) (pa_cons pe_int pa_nil))))
    (pss_cons (ps_if (pt_cmpR op_eq (pv 1) pe_int (nomark _)) (pss_cons (ps_set (i := 2) sc_L_shape.nd rfl (.inr rfl) (pe_op op_add pe_int (pe_call (ok_L_any T) (hr.mono (by decide)) (by rfl) T.d_L_any.g T.d_L_any.F.kp T.d_L_any.b .nil pass0 (pa_cons (pv 0) (pa_cons pe_int pa_nil)))))
      (pss_one (ps_ret (pe_lc rfl sc_L_shape.nd (pi_range1 (by rfl) T.z_range (pa_cons (pe_op op_add pe_int (pe_call (ok_L_any T) (hr.mono (by decide)) (by rfl) T.d_L_any.g T.d_L_any.F.kp T.d_L_any.b .nil pass0 (pa_cons (pv 0) (pa_cons pe_int pa_nil)))) pa_nil)) (blkOk_by (own := [("_law_step", 3)]) (N := N_L_shape) (sc := defScope s_L_shape) (by decide +kernel)) (fun _ _ _ _ _ => (pg_name (i := 3) sc_L_shape.nd rfl (by first | exact .inl rfl | exact .inr rfl))) (fun _ _ _ _ _ => pts_nil) (fun _ _ _ _ _ => (pe_call (ok_L_turn T) (hr.mono (by decide)) (by rfl) T.d_L_turn.g T.d_L_turn.F.kp T.d_L_turn.b .nil pass0 (pa_cons (pv 0) (pa_cons (pv 2) pa_nil)))))))) pss_nil)
    (pss_cons (ps_if (pt_cmpR op_eq (pv 1) pe_int (nomark _)) (pss_one (ps_ret (pe_call (ok_L_hours T) (hr.mono (by decide)) (by rfl) T.d_L_hours.g T.d_L_hours.F.kp T.d_L_hours.b .nil pass0 (pa_cons (pv 0) pa_nil)))) pss_nil)
    (pss_cons (ps_if (pt_cmpR op_eq (pv 1) pe_int (nomark _)) (pss_cons (ps_set (i := 2) sc_L_shape.nd rfl (.inr rfl) (pe_call (ok_L_ofL T) (hr.mono (by decide)) (by rfl) T.d_L_of.g T.d_L_of.F.kp T.d_L_of.b .nil pass0 (pa_cons (pv 0) (pa_cons (pe_lst (pa_cons pe_int (pa_cons pe_int (pa_cons pe_int pa_nil)))) pa_nil))))
      (pss_one (ps_ret (pe_callG (ok_L_regular T) gd (hr.mono (by decide)) (by rfl) T.d_L_regular.g T.d_L_regular.F.kp T.d_L_regular.b pass0 (pa_cons (pe_lc rfl sc_L_shape.nd (pi_range1 (by rfl) T.z_range (pa_cons pe_int pa_nil)) (blkOk_by (own := [("_law_step", 3)]) (N := N_L_shape) (sc := defScope s_L_shape) (by decide +kernel)) (fun _ _ _ _ _ => (pg_name (i := 3) sc_L_shape.nd rfl (by first | exact .inl rfl | exact .inr rfl))) (fun _ _ _ _ _ => pts_nil) (fun _ _ _ _ _ => (pe_call (ok_L_turn T) (hr.mono (by decide)) (by rfl) T.d_L_turn.g T.d_L_turn.F.kp T.d_L_turn.b .nil pass0 (pa_cons (pv 0) (pa_cons (pv 2) pa_nil))))) pa_nil))))) pss_nil)
    (pss_cons (ps_if (pt_cmpR op_eq (pv 1) pe_int (nomark _)) (pss_one (ps_ret (pe_call (ok_L_sheared T) (hr.mono (by decide)) (by rfl) T.d_L_sheared.g T.d_L_sheared.F.kp T.d_L_sheared.b .nil pass0 (pa_cons (pv 0) pa_nil)))) pss_nil)
    (pss_cons (ps_if (pt_cmpR op_eq (pv 1) pe_int (nomark _)) (pss_one (ps_ret (pe_call (ok_L_signed T) (hr.mono (by decide)) (by rfl) T.d_L_signed.g T.d_L_signed.F.kp T.d_L_signed.b .nil pass0 (pa_cons (pv 0) pa_nil)))) pss_nil)
    (pss_one (ps_ret (pe_ifExp (pt_cmpR op_eq (pv 1) pe_int (nomark _)) (pe_call (ok_L_wheels T) (hr.mono (by decide)) (by rfl) T.d_L_wheels.g T.d_L_wheels.F.kp T.d_L_wheels.b .nil pass0 (pa_cons (pv 0) pa_nil)) (pe_call (ok_L_apart T) (hr.mono (by decide)) (by rfl) T.d_L_apart.g T.d_L_apart.F.kp T.d_L_apart.b .nil pass0 (pa_cons (pv 0) pa_nil))))))))))), ?_⟩
  clear hu hu64 hu2
  walk_at "wp"
  refine ⟨l, c, 7, rfl, hd, by decide, by decide, fun v1 H1 hv1 x1 d1 => ?_⟩
  walk_at "wp"
  refine i_d (fun h => ?_) (fun h => ?_)
  · walk_at "wp"
    refine ⟨l, c, 3, rfl, d1, by decide, by decide, fun v2 H2 hv2 x2 d2 => ?_⟩
    walk_at "wp"
    have e2 : ((2 : Int) + (v2 : Int)) = ((2 + v2 : Nat) : Int) := by simp
    rw [e2]
    refine ⟨l, c, 3, rfl, d2, by decide, by decide, fun v3 H3 hv3 x3 d3 => ?_⟩
    walk_at "wp"
    refine ⟨((1 + v3 : Nat) : Int), by simp, by omega, by omega, lc_D d3 (fun D i acc H' => ∃ fs, LR H' l c D acc fs ∧ fs.length = i ∧ ∀ f ∈ fs, Pm (2 + v2) f) walk_range (fun _ _ _ => trivial) (fun i H1 x H2 y => by rw [y.1]; exact Ex.refl _) (by omega) (fun _ _ _ _ => ⟨[], LR.nil _ _ _ _, rfl, fun u h => nm0 h⟩) (fun D i acc Ha Hb e h => by
      obtain ⟨fs, h1, h2, h3⟩ := h
      exact ⟨fs, h1.keep fun b o _ _ h5 h6 => e b o h5 h6, h2, h3⟩) (fun D i acc x H4 H5 hi x5 d5 n1 n2 hDl hI y R N hR hN => ?_) fun D acc H4 hD n1 n2 x4 d4 hDl hal hI => ?_⟩
    · obtain ⟨fs, hL, hfl, hfp⟩ := hI
      obtain ⟨rfl, rfl⟩ := y_rng y
      refine ⟨rfl, ?_⟩
      walk_at "wp"
      refine ⟨l, c, 2 + v2, rfl, d5, by omega, fun f p H6 hp p1 p2 x6 d6 hpl pf => ?_⟩
      refine hR _ H6 x6 d6 ⟨fs ++ [f], (hL.xd x6).snoc hpl p1 p2 (fun e0 => by rw [e0, hDl] at hp; cases hp), by rw [List.length_append, hfl]; rfl, fun g hg => ?_⟩
      rcases List.mem_append.mp hg with hg | hg
      · exact hfp g hg
      · rw [List.mem_singleton] at hg
        subst hg
        exact pf
    · obtain ⟨fs, hL, hfl, hfp⟩ := hI
      have hfl2 : fs.length = 1 + v3 := by
        have h := hfl
        omega
      exact k (2 + v2) fs acc D H4 (x1.trans (x2.trans (x3.trans x4))) d4 n1 n2 hDl hL.lsts (by omega) (by omega) hfp (by omega) (by omega)
  · walk_at "wp"
    refine i_d (fun h => ?_) (fun h => ?_)
    · walk_at "wp"
      exact ⟨l, c, rfl, d1, Shp.pre x1 k⟩
    · walk_at "wp"
      refine i_d (fun h => ?_) (fun h => ?_)
      · walk_at "wp"
        refine al (by walk_at "sz") fun s H2 hs e2 h2 => ?_
        have sn := d1.new hs
        refine ⟨l, c, s, _, rfl, d1.ex' e2, h2, sn.1, sn.2, by simp, by simp, fun r v H3 hv x3 d3 => ?_⟩
        obtain ⟨m, rfl, hm⟩ : ∃ m : Nat, v = .int (m : Nat) ∧ (m = 3 ∨ m = 4) := by
          match r, hv with
          | 0, hv => cases hv; exact ⟨3, rfl, .inl rfl⟩
          | 1, hv => cases hv; exact ⟨3, rfl, .inl rfl⟩
          | 2, hv => cases hv; exact ⟨4, rfl, .inr rfl⟩
          | r + 3, hv => simp at hv
        walk_at "wp"
        have x03 := x1.trans ((Xd.of d1 e2).trans x3)
        refine ⟨2, rfl, by decide, by decide, lc_D d3 (fun D i acc H' => ∃ fs, LR H' l c D acc fs ∧ fs.length = i ∧ ∀ f ∈ fs, Pm m f) walk_range (fun _ _ _ => trivial) (fun i H1 x H2 y => by rw [y.1]; exact Ex.refl _) (by decide) (fun _ _ _ _ => ⟨[], LR.nil _ _ _ _, rfl, fun u h => nm0 h⟩) (fun D i acc Ha Hb e h => by
          obtain ⟨fs, h1, h2, h3⟩ := h
          exact ⟨fs, h1.keep fun b o _ _ h5 h6 => e b o h5 h6, h2, h3⟩) (fun D i acc x H4 H5 hi x5 d5 n1 n2 hDl hI y R N hR hN => ?_) fun D acc H4 hD n1 n2 x4 d4 hDl hal hI => ?_⟩
        · obtain ⟨fs, hL, hfl, hfp⟩ := hI
          obtain ⟨rfl, rfl⟩ := y_rng y
          refine ⟨rfl, ?_⟩
          walk_at "wp"
          refine ⟨l, c, m, rfl, d5, by omega, fun f p H6 hp p1 p2 x6 d6 hpl pf => ?_⟩
          refine hR _ H6 x6 d6 ⟨fs ++ [f], (hL.xd x6).snoc hpl p1 p2 (fun e0 => by rw [e0, hDl] at hp; cases hp), by rw [List.length_append, hfl]; rfl, fun g hg => ?_⟩
          rcases List.mem_append.mp hg with hg | hg
          · exact hfp g hg
          · rw [List.mem_singleton] at hg
            subst hg
            exact pf
        · obtain ⟨fs, hL, hfl, hfp⟩ := hI
          have hfl2 : fs.length = 2 := hfl
          exact ⟨l, c, D, m, acc, fs, rfl, d4, hDl, n1, n2, hL.lsts, by omega, by omega, hfp, hm, Shp.pre (x03.trans x4) k⟩
      · walk_at "wp"
        refine i_d (fun h => ?_) (fun h => ?_)
        · walk_at "wp"
          exact ⟨l, c, rfl, d1, Shp.pre x1 k⟩
        · walk_at "wp"
          refine i_d (fun h => ?_) (fun h => ?_)
          · walk_at "wp"
            exact ⟨l, c, rfl, d1, Shp.pre x1 k⟩
          · walk_at "wp"
            refine i_d (fun h => ?_) (fun h => ?_)
            · walk_at "wp"
              exact ⟨l, c, rfl, d1, Shp.pre x1 k⟩
            · walk_at "wp"
              exact ⟨l, c, rfl, d1, Shp.pre x1 k⟩

end
end Eo
/-! M7: the words of one layer, their counts and their effects -/
namespace Eo
section
variable {σ : Type} [DecidableEq σ]
def Over (N : List σ) (w : List σ) : Prop := ∀ x ∈ w, x ∈ N
def cn (N : List σ) (w : List σ) : List Nat := N.map fun x => w.count x
def inc (cs : List Nat) (a : Nat) : List Nat := cs.take a ++ [ap cs a + 1] ++ cs.drop (a + 1)
theorem cn_len (N w : List σ) : (cn N w).length = N.length := by unfold cn; rw [List.length_map]
theorem inc_eq {cs : List Nat} {a : Nat} (h : a < cs.length) : inc cs a = cs.set a (ap cs a + 1) := by
  rw [List.set_eq_take_append_cons_drop, if_pos h]
  unfold inc
  rw [List.append_assoc]
  rfl
theorem cn_snoc {N w : List σ} {a : Nat} (nd : N.Nodup) (h : a < N.length) : cn N (w ++ [N[a]]) = inc (cn N w) a := by
  rw [inc_eq (by rw [cn_len]; exact h)]
  apply List.ext_getElem
  · rw [List.length_set, cn_len, cn_len]
  · intro i h1 h2
    rw [cn_len] at h1
    rw [List.getElem_set]
    have hap : ap (cn N w) a = w.count N[a] := by
      unfold ap cn
      rw [List.getD_eq_getElem?_getD, List.getElem?_map, List.getElem?_eq_getElem h]
      rfl
    have hl : ∀ u, (cn N u)[i]'(by rw [cn_len]; exact h1) = u.count N[i] := fun u => by unfold cn; rw [List.getElem_map]
    rw [hl, hl, List.count_append, hap]
    by_cases e : a = i
    · subst e
      rw [if_pos rfl]
      simp
    · rw [if_neg e]
      have : N[a] ≠ N[i] := fun q => e ((List.getElem_inj nd).mp q)
      have h0 : [N[a]].count N[i] = 0 := List.count_eq_zero.mpr fun q => this (List.mem_singleton.mp q).symm
      rw [h0]
      rfl
theorem cn_perm {N u v : List σ} (hu : Over N u) (hv : Over N v) (e : cn N u = cn N v) : u.Perm v := by
  rw [List.perm_iff_count]
  intro x
  by_cases hx : x ∈ N
  · exact List.map_inj_left.mp e x hx
  · rw [List.count_eq_zero.mpr fun q => hx (hu x q), List.count_eq_zero.mpr fun q => hx (hv x q)]
structure EndsOK (n : Nat) (ds : List (σ × List Nat)) (N : List σ) (cs : List Nat) (E : List (List Nat)) : Prop where
  nd : E.Nodup
  has : ∃ w, Over N w ∧ cn N w = cs
  iff : ∀ e, e ∈ E ↔ ∃ w, Over N w ∧ cn N w = cs ∧ e = eff n ds w
/-- the counts of the words of one length -/
structure LayerOK (N : List σ) (L : Nat) (CL : List (List Nat)) : Prop where
  nd : CL.Nodup
  iff : ∀ cs, cs ∈ CL ↔ ∃ w : List σ, w.length = L ∧ Over N w ∧ cn N w = cs
theorem snoc_of {w : List σ} {L : Nat} (h : w.length = L + 1) : ∃ u x, w = u ++ [x] ∧ u.length = L := by
  have hne : w ≠ [] := fun e => by rw [e] at h; cases h
  refine ⟨w.dropLast, w.getLast hne, (List.dropLast_concat_getLast hne).symm, by rw [List.length_dropLast]; omega⟩
/-- the words of a length -/
def wordsN (N : List σ) : Nat → List (List σ)
  | 0 => [[]]
  | L + 1 => ((wordsN N L).map fun w => N.map fun x => w ++ [x]).flatten
theorem mem_wordsN {N : List σ} : ∀ {L : Nat} {w : List σ}, w.length = L → Over N w → w ∈ wordsN N L
  | 0, w, h, _ => by
    rw [List.length_eq_zero_iff.mp h]
    exact List.mem_singleton.mpr rfl
  | L + 1, w, h, ho => by
    obtain ⟨u, x, rfl, hu⟩ := snoc_of h
    refine List.mem_flatten.mpr ⟨N.map fun x => u ++ [x], List.mem_map.mpr ⟨u, mem_wordsN hu fun y hy => ho y (List.mem_append_left _ hy), rfl⟩, List.mem_map.mpr ⟨x, ho x (by simp), rfl⟩⟩
theorem wordsN_len {N : List σ} : ∀ L, (wordsN N L).length = N.length ^ L
  | 0 => rfl
  | L + 1 => by
    show ((wordsN N L).map fun w => N.map fun x => w ++ [x]).flatten.length = _
    rw [List.length_flatten, List.map_map]
    have : (List.length ∘ fun w => N.map fun x => w ++ [x]) = fun _ : List σ => N.length := by funext w; simp
    rw [this, Nat.pow_succ, ← wordsN_len L, List.map_const', List.sum_replicate_nat]
theorem few_cn {α : Type} [DecidableEq α] {N : List σ} {L : Nat} {l : List α} (nd : l.Nodup) (g : List σ → α) (h : ∀ c ∈ l, ∃ w, w.length = L ∧ Over N w ∧ g w = c) : l.length ≤ N.length ^ L := by
  rw [← wordsN_len L, ← List.length_map (f := g)]
  exact sub_len nd fun c hc => by
    obtain ⟨w, h1, h2, h3⟩ := h c hc
    exact List.mem_map.mpr ⟨w, mem_wordsN h1 h2, h3⟩
/-- what the next layer holds -/
theorem next_ok {n : Nat} {ds : List (σ × List Nat)} (hA : AllPm n ds) {N : List σ} (ndN : N.Nodup) {L : Nat} {CL : List (List Nat)} (hL : LayerOK N L CL) {G : List (List Nat × List (List Nat))} (ndG : (G.map (·.1)).Nodup)
    (hs : ∀ p ∈ G, p.2.Nodup ∧ (∃ w, w.length = L + 1 ∧ Over N w ∧ cn N w = p.1) ∧ ∀ e ∈ p.2, ∃ w, w.length = L + 1 ∧ Over N w ∧ cn N w = p.1 ∧ e = eff n ds w)
    (hc : ∀ w a (h : a < N.length), w.length = L → Over N w → ∃ p ∈ G, p.1 = inc (cn N w) a ∧ cmp (eff n ds w) (dl n ds N[a]) ∈ p.2) :
    (∀ p ∈ G, EndsOK n ds N p.1 p.2) ∧ LayerOK N (L + 1) (G.map (·.1)) := by
  have key : ∀ w, w.length = L + 1 → Over N w → ∃ p ∈ G, p.1 = cn N w ∧ eff n ds w ∈ p.2 := fun w hw ho => by
    obtain ⟨u, x, rfl, hu⟩ := snoc_of hw
    obtain ⟨a, ha, rfl⟩ := List.getElem_of_mem (ho x (by simp))
    obtain ⟨p, hp, h1, h2⟩ := hc u a ha hu fun y hy => ho y (List.mem_append_left _ hy)
    exact ⟨p, hp, by rw [h1, cn_snoc ndN], by rw [eff_append hA, eff_single hA]; exact h2⟩
  refine ⟨fun p hp => ?_, ndG, fun cs => ?_⟩
  · obtain ⟨h1, ⟨w0, l0, o0, c0⟩, h3⟩ := hs p hp
    refine ⟨h1, ⟨w0, o0, c0⟩, fun e => ⟨fun he => ?_, fun ⟨w, ho, hcw, he⟩ => ?_⟩⟩
    · obtain ⟨w, _, h5, h6, h7⟩ := h3 e he
      exact ⟨w, h5, h6, h7⟩
    · have hl : w.length = L + 1 := by rw [(cn_perm ho o0 (by rw [hcw, c0])).length_eq, l0]
      obtain ⟨q, hq, h4, h5⟩ := key w hl ho
      rw [hcw] at h4
      have : q = p := by
        obtain ⟨i, hi, ei⟩ := List.getElem_of_mem hq
        obtain ⟨j, hj, ej⟩ := List.getElem_of_mem hp
        have e2 : (G.map (·.1))[i]'(by rw [List.length_map]; exact hi) = (G.map (·.1))[j]'(by rw [List.length_map]; exact hj) := by
          rw [List.getElem_map, List.getElem_map, ei, ej, h4]
        have e3 := (List.getElem_inj ndG).mp e2
        subst e3
        rw [← ei, ← ej]
      rw [he, ← this]
      exact h5
  · constructor
    · intro h
      obtain ⟨p, hp, rfl⟩ := List.mem_map.mp h
      exact (hs p hp).2.1
    · rintro ⟨w, hw, ho, rfl⟩
      obtain ⟨p, hp, h1, _⟩ := key w hw ho
      exact List.mem_map.mpr ⟨p, hp, h1⟩
theorem over_nil (N : List σ) : Over N [] := fun _ h => nomatch h
theorem start_ok (n : Nat) (ds : List (σ × List Nat)) (N : List σ) : EndsOK n ds N (cn N []) [idn n] ∧ LayerOK N 0 [cn N []] := by
  have nil_of : ∀ w, Over N w → cn N w = cn N [] → w = [] := fun w ho e => by
    have := cn_perm ho (over_nil N) e
    exact List.perm_nil.mp this
  refine ⟨⟨by simp, ⟨[], over_nil N, rfl⟩, fun e => ⟨fun h => ⟨[], over_nil N, rfl, List.mem_singleton.mp h⟩, fun ⟨w, ho, hc, he⟩ => ?_⟩⟩, by simp, fun cs => ⟨fun h => ⟨[], rfl, over_nil N, (List.mem_singleton.mp h).symm⟩, fun ⟨w, hw, _, hc⟩ => ?_⟩⟩
  · rw [nil_of w ho hc] at he
    exact List.mem_singleton.mpr he
  · rw [List.length_eq_zero_iff.mp hw] at hc
    exact List.mem_singleton.mpr hc.symm
theorem cn_nil (N : List σ) : cn N [] = List.replicate N.length 0 := by
  unfold cn
  induction N with
  | nil => rfl
  | cons x N ih => rw [List.map_cons, ih]; rfl
/-- in a free machine the effects of one list of deeds are unlike at each state -/
theorem ends_apart {n : Nat} {ds : List (σ × List Nat)} {N : List σ} {cs : List Nat} {E : List (List Nat)} (hE : EndsOK n ds N cs E) (hF : Free n ds) {s : Nat} (hs : s < n) : (E.map fun e => ap e s).Nodup := by
  refine nodup_map hE.nd fun a ha b hb e => ?_
  obtain ⟨u, hu, cu, rfl⟩ := (hE.iff a).mp ha
  obtain ⟨v, hv, cv, rfl⟩ := (hE.iff b).mp hb
  exact hF u v (cn_perm hu hv (by rw [cu, cv])) s hs e
/-- if two deeds of the list don't exchange, there are two effects at least -/
theorem ends_two {n : Nat} {ds : List (σ × List Nat)} (hA : AllPm n ds) {N : List σ} {cs : List Nat} {E : List (List Nat)} (hE : EndsOK n ds N cs E) (ndN : N.Nodup) {i j : Nat} (hi : i < N.length) (hj : j < N.length) (ci : 0 < ap cs i) (cj : 0 < ap cs j) (hne : cmp (dl n ds N[i]) (dl n ds N[j]) ≠ cmp (dl n ds N[j]) (dl n ds N[i])) : 1 < E.length := by
  obtain ⟨w, ho, hc⟩ := hE.has
  have cnt : ∀ k (hk : k < N.length), ap cs k = w.count N[k] := fun k hk => by
    rw [← hc]
    unfold ap cn
    rw [List.getD_eq_getElem?_getD, List.getElem?_map, List.getElem?_eq_getElem hk]
    rfl
  have hij : N[i] ≠ N[j] := fun e => hne (by rw [e])
  have mi : N[i] ∈ w := List.count_pos_iff.mp (by rw [← cnt i hi]; exact ci)
  have mj : N[j] ∈ w.erase N[i] := (List.mem_erase_of_ne (Ne.symm hij)).mpr (List.count_pos_iff.mp (by rw [← cnt j hj]; exact cj))
  have p1 : w.Perm (N[i] :: N[j] :: (w.erase N[i]).erase N[j]) := (List.perm_cons_erase mi).trans ((List.perm_cons_erase mj).cons _)
  have p2 : w.Perm (N[j] :: N[i] :: (w.erase N[i]).erase N[j]) := p1.trans (List.Perm.swap _ _ _)
  have memE : ∀ u, w.Perm u → eff n ds u ∈ E := fun u p => (hE.iff _).mpr ⟨u, fun x hx => ho x (p.mem_iff.mpr hx), by rw [← hc]; exact List.map_congr_left fun x _ => (p.count_eq x).symm, rfl⟩
  have a1 := memE _ p1
  have a2 := memE _ p2
  have q := eff_pm hA ((w.erase N[i]).erase N[j])
  have di := dl_pm hA N[i]
  have dj := dl_pm hA N[j]
  have hne2 : eff n ds (N[i] :: N[j] :: (w.erase N[i]).erase N[j]) ≠ eff n ds (N[j] :: N[i] :: (w.erase N[i]).erase N[j]) := fun e => by
    refine hne (cancel_r q (di.cmp dj).ef (dj.cmp di).ef ?_)
    rw [cmp_assoc di.ef dj.ef, cmp_assoc dj.ef di.ef]
    exact e
  match E, a1, a2 with
  | [], h, _ => cases h
  | [x], h1, h2 =>
    rw [List.mem_singleton] at h1 h2
    exact absurd (h1.trans h2.symm) hne2
  | _ :: _ :: _, _, _ => simp
/-- if all deeds of the list exchange, there is one -/
theorem ends_one {n : Nat} {ds : List (σ × List Nat)} (hA : AllPm n ds) {N : List σ} {cs : List Nat} {E : List (List Nat)} (hE : EndsOK n ds N cs E)
    (hx : ∀ i j (hi : i < N.length) (hj : j < N.length), 0 < ap cs i → 0 < ap cs j → cmp (dl n ds N[i]) (dl n ds N[j]) = cmp (dl n ds N[j]) (dl n ds N[i])) : E.length = 1 := by
  obtain ⟨w0, o0, c0⟩ := hE.has
  have cnt : ∀ k (hk : k < N.length), ap cs k = w0.count N[k] := fun k hk => by
    rw [← c0]
    unfold ap cn
    rw [List.getD_eq_getElem?_getD, List.getElem?_map, List.getElem?_eq_getElem hk]
    rfl
  have ex : ∀ x ∈ w0, ∀ y ∈ w0, cmp (dl n ds x) (dl n ds y) = cmp (dl n ds y) (dl n ds x) := fun x hx' y hy' => by
    obtain ⟨i, hi, rfl⟩ := List.getElem_of_mem (o0 x hx')
    obtain ⟨j, hj, rfl⟩ := List.getElem_of_mem (o0 y hy')
    exact hx i j hi hj (by rw [cnt i hi]; exact List.count_pos_iff.mpr hx') (by rw [cnt j hj]; exact List.count_pos_iff.mpr hy')
  have same : ∀ {u v : List σ}, u.Perm v → (∀ x ∈ u, x ∈ w0) → eff n ds u = eff n ds v := by
    intro u v p
    induction p with
    | nil => intro _; rfl
    | cons x p ih => intro h; show cmp _ _ = cmp _ _; rw [ih fun y hy => h y (List.mem_cons_of_mem _ hy)]
    | swap x y l =>
      intro h
      show cmp (dl n ds y) (cmp (dl n ds x) (eff n ds l)) = cmp (dl n ds x) (cmp (dl n ds y) (eff n ds l))
      rw [← cmp_assoc (dl_pm hA y).ef (dl_pm hA x).ef, ← cmp_assoc (dl_pm hA x).ef (dl_pm hA y).ef, ex y (h y (by simp)) x (h x (by simp))]
    | trans p1 _ ih1 ih2 => intro h; rw [ih1 h, ih2 fun x hx => h x (p1.mem_iff.mpr hx)]
  have all : ∀ e ∈ E, e = eff n ds w0 := fun e he => by
    obtain ⟨w, ho, hc, rfl⟩ := (hE.iff e).mp he
    exact (same (cn_perm o0 ho (by rw [hc, c0])) fun x h => h).symm
  have m0 : eff n ds w0 ∈ E := (hE.iff _).mpr ⟨w0, o0, c0, rfl⟩
  have nd := hE.nd
  match E, nd, all, m0 with
  | [], _, _, h => cases h
  | [x], _, _, _ => rfl
  | x :: y :: t, nd, all, _ =>
    have h1 := all x (by simp)
    have h2 := all y (by simp)
    rw [List.nodup_cons] at nd
    exact absurd (by rw [h1, ← h2]; simp) nd.1
end
end Eo
namespace Eo
open PySem PyProof.Rows L2 L2.DX
/-! words of the walk: wp goes on where nothing is open; hl looks an object up; ex: what stood stands -/
local macro_rules | `(tactic| walk_at "hl") => `(tactic| first | assumption | exact PlT.sq (by assumption) | (refine stT ?_; walk_at "hl") | (refine stL ?_; walk_at "hl") | (refine Ex.at (by assumption) ?_; walk_at "hl") | (refine Mu.tup (by assumption) ?_; walk_at "hl") | (refine Ex.sqT (by assumption) ?_; walk_at "hl") | (refine Ex.sqL (by assumption) ?_; walk_at "hl") | (refine Ex.plT (by assumption) ?_; walk_at "hl") | (refine Mu.plT (by assumption) ?_; walk_at "hl"))
local macro_rules | `(tactic| walk_at "ex") => `(tactic| first | assumption | exact Ex.refl _ | (refine Ex.trans ?_ (by assumption); walk_at "ex") | (refine Ex.mu ?_ (by assumption) (by first | assumption | walk_at "fr"); walk_at "ex"))
local macro_rules | `(tactic| walk_at "fr") => `(tactic| first | assumption | (refine Ex.free (by assumption) ?_; walk_at "fr"))
local macro_rules | `(tactic| walk_at "rf") => `(tactic| with_unfolding_all rfl)
local macro_rules | `(tactic| walk_at "wp") => `(tactic| repeat (with_reducible first
  | refine q_seq ?_ | refine q_asg ?_ | refine q_ret ?_ | refine q_drop ?_ | refine q_if ?_ | refine q_next ?_ | refine q_par ?_ | refine q_par3 ?_ | refine q_retN ?_ | refine q_cont ?_ | refine q_brk ?_
  | refine e_var (by with_unfolding_all rfl) ?_ | refine e_c ?_ | refine e_op ?_ | refine e_cons ?_ | refine e_nil ?_ | refine e_test ?_ | refine e_B ?_ | refine e_yes ?_ | refine e_cb ?_ | refine e_call ?_ | refine e_then ?_ | refine e_tup ?_ | refine e_lst ?_
  | refine x_bl ?_ | refine i_T ?_ | refine i_F ?_ | refine x_two ?_ | refine x_three ?_
  | refine r_I0 ?_ | refine r_add ?_ | refine r_ip ?_ | refine g_nm ?_ | refine r_eqI ?_ | refine r_neI ?_ | refine r_eq (by with_unfolding_all rfl) ?_ | refine r_ne (by with_unfolding_all rfl) ?_
  | refine e_not ?_ | refine e_and ?_ | refine e_or ?_ | refine e_andV ?_ | refine e_orV ?_ | refine e_notV ?_ | refine e_ifx ?_ | refine e_idxF ?_ | refine e_idxI ?_ | refine e_sl ?_ | refine e_part ?_ | refine e_nopart ?_ | refine f_revA ?_ | refine e_lenSet ?_ | refine l_dcT ?_ | refine e_sadd ?_ | refine q_asgS ?_ | refine q_augS ?_ | refine e_tupRg ?_ | refine e_lstRg ?_ | refine e_rg1 ?_ | refine e_rg2 ?_ | refine e_dget ?_ | refine e_din ?_ | refine e_dnotin ?_ | refine e_dget2 ?_ | refine q_dput ?_ | refine e_un ?_ | refine e_chain ?_ | refine e_bm ?_ | refine e_bm0 ?_ | refine e_fld ?_ | refine q_asgT ?_
  | refine l_any ?_ | refine l_tup ?_ | refine l_list ?_ | refine l_rng1 ?_ | refine l_rng2 ?_ | refine l_str ?_ | refine l_enumL ?_ | refine l_enumT ?_ | refine l_zip ?_ | refine l_zipM ?_
  | refine f_tup ?_ | refine f_list ?_ | refine f_rng1 ?_ | refine f_enumL ?_ | refine f_enumT ?_))
local macro_rules | `(tactic| walk_at "sz") => `(tactic| first | decide | (refine small ?_; simp; done) | (refine small ?_; simp; omega) | (refine smallL ?_; simp; done) | (refine smallL ?_; simp; omega) | (simp; done) | (simp; omega))
section
variable {P : Program} {w : World} {K : PySem.W.Frag} {mg : Str → Option Value} {base : Heap} {C : Addr} {A : Nat → Addr} {FD : Nat → FuncData}
def fdx (ds : Ds) (j : Nat) : List Nat := (ds.map (·.2)).getD j []
theorem fdx_get {ds : Ds} {j : Nat} (h : j < ds.length) : (ds.map (·.2))[j]? = some (fdx ds j) := by
  unfold fdx
  rw [List.getD_eq_getElem?_getD, List.getElem?_map, List.getElem?_eq_getElem h]
  rfl
theorem fdx_eq {n : Nat} {ds : Ds} (g : Good n ds) {j : Nat} (h : j < (nms ds).length) : fdx ds j = dl n ds (nms ds)[j] := by
  have hj : j < ds.length := by simpa using h
  have e : (ds[j].1, ds[j].2) ∈ ds := List.getElem_mem hj
  have e1 : (nms ds)[j] = ds[j].1 := by simp
  rw [e1, dl_in g.apart e]
  have := fdx_get hj
  rw [List.getElem?_map, List.getElem?_eq_getElem hj] at this
  exact (Option.some.inj this).symm
theorem fdx_pm {n : Nat} {ds : Ds} (g : Good n ds) {j : Nat} (h : j < ds.length) : Pm n (fdx ds j) := by
  rw [fdx_eq g (by simpa using h)]
  exact dl_pm g.perm _
theorem r_setE {w : World} {a : Addr} {f : List Nat} {H : Hp} {Q : VK} (h : SqL K H a (encI f)) (nd : f.Nodup) (hl : f.length ≤ 4000) (k : ∀ p H1, H p = none → Ex H H1 → (∃ S, H1 p = some (SetO w p S f.length)) → Q (.ref p) H1) : rSetL K w [.ref a] H Q := by
  rw [encI_ints] at h
  refine ⟨a, _, rfl, h, nodup_map nd fun x _ y _ e => by omega, by rw [List.length_map]; exact hl, fun p hp => k p _ hp (Ex.new hp) ⟨_, by rw [upd_same, List.length_map]⟩⟩
theorem r_sortedSetE {w : World} {a : Addr} {S : Int → Bool} {n : Nat} {H : Hp} {Q : VK} (h : H a = some (SetO w a S n)) (hn : n < 64) (k : ∀ (ns : List Int) p H1, ns.length = n → H p = none → Ex H H1 → H1 p = some (.lst (ns.map V.int)) → Q (.ref p) H1) : rSortedSet w [.ref a] H Q :=
  ⟨a, S, n, rfl, h, hn, fun ns p _ _ hl hp => k ns p _ hl hp (Ex.new hp) upd_same⟩
def sp_L_list_right : Sp := fun vs H Q _ => ∃ (t b p : Addr) (n : Nat) (ds : Ds) (us es : List V) (cs : List Nat) (E : List (List Nat)), vs = [.ref t, .ref b, .ref p] ∧ H t = some (.lst us) ∧ TupsAt H us (ds.map (·.2)) ∧ H b = some (.tup (encI cs)) ∧ H p = some (.lst es) ∧ TupsAt H es E ∧ Good n ds ∧ Free n ds ∧ EndsOK n ds (nms ds) cs E ∧ ∀ H', Ex H H' → Q (.bl true) H'
theorem ok_L_list_right (T : Tx K mg C A FD) : (FnOk P w K mg base CX0 2 (A 62) (FD 62) ["_law_turns", "_law_counts_here", "_law_effects"] sp_L_list_right) := by
  refine T.d_L_list_right.F.ok sc_L_list_right (fun vs H Q E h => by obtain ⟨t, b, p, n, ds, us, es, cs, E, rfl, ht, hus, hb, hp, hes, hg, hF, hE, k⟩ := h; rfl) (fun cdv A0 outer s H vs Q E hr h => ?_)
  obtain ⟨t, b, p, n, ds, us, es, cs, E, rfl, ht, hus, hb, hp, hes, hg, hF, hE, k⟩ := h
  have hu := hu_of hr
  have hu64 := hr.units
  have hu2 : _ + 65 < cLine := (fun {A : Around} {k} (hr : Room k A) => (by have := hr.un; omega : A.units + 65 < cLine)) hr
  refine ⟨_, (pss_cons (ps_set (i := 3) sc_L_list_right.nd rfl (.inl rfl) (pe_callB (kcall_len K) (by rfl) T.z_len (by decide +kernel) (pa_cons (pe_ix (kix_list K) (pv 0) pe_int (fun _ _ => rfl)) pa_nil)))
    (pss_cons (ps_for PassesOwn.never rfl (pi_range1 (by rfl) T.z_range (pa_cons (pv 3) pa_nil)) (pg_name (i := 4) sc_L_list_right.nd rfl (by first | exact .inl rfl | exact .inr rfl)) (pss_one (ps_if (pt_cmpR op_ne (pe_callB (kcall_len K) (by rfl) T.z_len (by decide +kernel) (pa_cons (pe_callB (kcr_sortedSet w rfl) (by rfl) T.z_sorted (by decide +kernel) (pa_cons (pe_callTy (kcr_setL K w rfl) (by rfl) T.z_set (by decide +kernel) (pa_cons (pe_lc rfl sc_L_list_right.nd (kpi_list K (pv 2)) (blkOk_by (own := [("_law_effect_here", 10)]) (N := N_L_list_right) (sc := defScope s_L_list_right) (by decide +kernel)) (fun _ _ _ _ _ => (pg_name (i := 10) sc_L_list_right.nd rfl (by first | exact .inl rfl | exact .inr rfl))) (fun _ _ _ _ _ => pts_nil) (fun _ _ _ _ _ => (pe_ix (kix_tup K) (pv 10) (pv 4) (fun _ _ => rfl)))) pa_nil)) pa_nil)) pa_nil)) (pe_callB (kcall_len K) (by rfl) T.z_len (by decide +kernel) (pa_cons (pv 2) pa_nil)) (nomark _)) (pss_one (ps_ret pe_bl)) pss_nil)))
    (pss_cons (ps_setLc (i := 5) rfl sc_L_list_right.nd rfl rfl (sw_true rfl rfl rfl (by decide +kernel)) (kpi_zipM K (by rfl) T.z_zip (pa_cons (pv 0) (pa_cons (pv 1) pa_nil))) (blkOk_by (own := [("_law_one", 6), ("_law_many", 9)]) (N := N_L_list_right) (sc := defScope s_L_list_right) (by decide +kernel)) (fun _ _ _ _ _ => (kpg_tup K (n := 2) (by rfl) (pgs_cons (pg_name (i := 6) sc_L_list_right.nd rfl (by first | exact .inl rfl | exact .inr rfl)) (pgs_cons (pg_name (i := 9) sc_L_list_right.nd rfl (by first | exact .inl rfl | exact .inr rfl)) pgs_nil)))) (fun _ _ _ _ _ => (pts_one (pt_cmpR op_gt (pv 9) pe_int (nomark _)))) (fun _ _ _ _ _ => (pv 6)))
    (pss_cons (ps_for PassesOwn.never rfl (kpi_enum K (by rfl) T.z_enumerate (pa_cons (pv 5) pa_nil)) (kpg_tup K (n := 2) (by rfl) (pgs_cons (pg_name (i := 7) sc_L_list_right.nd rfl (by first | exact .inl rfl | exact .inr rfl)) (pgs_cons (pg_name (i := 6) sc_L_list_right.nd rfl (by first | exact .inl rfl | exact .inr rfl)) pgs_nil))) (pss_one (ps_for PassesOwn.never rfl (kpi_list K (pe_slice (ksl_list K) (pv 5) po_none (po_some (pv 7)))) (pg_name (i := 8) sc_L_list_right.nd rfl (by first | exact .inl rfl | exact .inr rfl)) (pss_one (ps_if (pt_cmpR (kop_neD K hu64) (pe_call (ok_L_then T) (hr.mono (by decide)) (by rfl) T.d_L_then.g T.d_L_then.F.kp T.d_L_then.b .nil pass0 (pa_cons (pv 6) (pa_cons (pv 8) pa_nil))) (pe_call (ok_L_then T) (hr.mono (by decide)) (by rfl) T.d_L_then.g T.d_L_then.F.kp T.d_L_then.b .nil pass0 (pa_cons (pv 8) (pa_cons (pv 6) pa_nil))) (nomark _)) (pss_one (ps_ret (pe_cmpR op_gt (pe_callB (kcall_len K) (by rfl) T.z_len (by decide +kernel) (pa_cons (pv 2) pa_nil)) pe_int (nomark _)))) pss_nil)))))
    (pss_one (ps_ret (pe_cmpR op_eq (pe_callB (kcall_len K) (by rfl) T.z_len (by decide +kernel) (pa_cons (pv 2) pa_nil)) pe_int (nomark _)))))))), ?_⟩
  clear hu hu64 hu2
  walk_at "wp"
  have hA := hg.perm
  have two := hg.two
  have few := hg.few
  have eight := hg.eight
  have hN : (nms ds).length = ds.length := by simp
  have hcs : cs.length = ds.length := by
    obtain ⟨w, _, hc⟩ := hE.has
    rw [← hc, cn_len, hN]
  have hul : us.length = ds.length := by rw [hus.1, List.length_map]
  have hEp : ∀ e ∈ E, Pm n e := fun e he => by
    obtain ⟨w, _, _, rfl⟩ := (hE.iff e).mp he
    exact eff_pm hA w
  have hE49 : E.length ≤ 49 := by
    have h1 := nodup_lt_len (n := n) (ends_apart hE hF (s := 0) (by omega)) (fun x hx => by
      obtain ⟨e, he, rfl⟩ := List.mem_map.mp hx
      exact (hEp e he).ap_lt (by omega))
    rw [List.length_map] at h1
    omega
  obtain ⟨q0, g1, g2⟩ := hus.2 0 _ (fdx_get hg.has)
  refine r_ixL (n := 0) (stL ht) (atI_ok (n := 0) g1) ?_
  walk_at "wp"
  refine r_lenT (stT g2) ?_
  rw [encI_len, (fdx_pm hg hg.has).len]
  walk_at "wp"
  refine ⟨(n : Nat), rfl, by omega, by omega, fr_W walk_range (fun i σ H2 => Ex H H2 ∧ ∃ (o4 o5 o6 o7 o8 o9 o10 : Option V), σ = [some (.ref t), some (.ref b), some (.ref p), some (.int (n : Nat)), o4, o5, o6, o7, o8, o9, o10])
    ⟨Ex.refl _, _, _, _, _, _, _, _, rfl⟩ (fun _ _ _ _ _ => trivial) (fun i x σ H2 H3 hi h y => ?_) (fun σ H2 h => ?_)⟩
  · obtain ⟨e2, o4, o5, o6, o7, o8, o9, o10, rfl⟩ := h
    obtain ⟨rfl, rfl⟩ := y_rng y
    walk_at "wp"
    have hin : i < n := by simpa using hi
    refine ⟨p, rfl, ⟨_, stL (e2 _ _ hp)⟩, lc_V (encI (E.map fun e => ap e i)) (wk_list (stL (e2 _ _ hp))) (by rw [hes.1]; omega) (by rw [encI_len, List.length_map, hes.1]) (fun j x y H4 H5 hy e5 hx R hR => ?_) fun D H4 hD e4 hDl => ?_⟩
    · obtain ⟨rfl, hx⟩ := hx
      obtain ⟨hj, rfl⟩ := encI_at hy
      rw [List.length_map] at hj
      obtain ⟨e0, q, he0, rfl, hq⟩ := (hes.ei (e2.trans e5).ei).get hx
      rw [List.getElem?_eq_getElem hj] at he0
      cases he0
      refine ⟨rfl, ?_⟩
      walk_at "wp"
      refine r_ixT (n := i) (stT hq) (atI_ok (encI_get (by rw [(hEp _ (List.getElem_mem hj)).len]; exact hin))) ?_
      rw [ap_mapN hj] at hR
      exact hR _ (Ex.refl _)
    · walk_at "wp"
      have nd := ends_apart hE hF hin
      refine r_setE (stL hDl) nd (by rw [List.length_map]; omega) fun s H5 hs e5 h5 => ?_
      obtain ⟨S, h5⟩ := h5
      rw [List.length_map] at h5
      walk_at "wp"
      refine r_sortedSetE h5 (by omega) fun ns so H6 hns hso e6 h6 => ?_
      walk_at "wp"
      refine r_lenL (stL h6) ?_
      rw [List.length_map, hns]
      walk_at "wp"
      have e26 := e2.trans (e4.trans (e5.trans e6))
      refine r_lenL (stL (e26 _ _ hp)) ?_
      rw [hes.1]
      walk_at "wp"
      refine i_nF rfl ?_
      walk_at "wp"
      exact ⟨e26, _, _, _, _, _, _, _, rfl⟩
  · obtain ⟨e2, o4, o5, o6, o7, o8, o9, o10, rfl⟩ := h
    walk_at "wp"
    have us2 := hus.ei e2.ei
    refine ⟨t, b, us, encI cs, rfl, stL (e2 _ _ ht), stT (e2 _ _ hb), lc_I (fun i acc H' => ∃ js : List Nat, TupsAt H' acc (js.map (fdx ds)) ∧ js.length ≤ i ∧ (∀ j ∈ js, j < ds.length ∧ 0 < ap cs j) ∧ ∀ j, j < i → 0 < ap cs j → j ∈ js) (wk_zipM (n := ds.length) hul.symm (by rw [encI_len, hcs]) (stL (e2 _ _ ht)) (stT (e2 _ _ hb))) (by omega) (fun _ _ => ⟨[], TupsAt.nil _, Nat.le_refl _, fun j h => nm0 h, fun j h => by omega⟩) (fun i acc Ha Hb e h => by
      obtain ⟨js, h1, h2⟩ := h
      exact ⟨js, h1.ei e, h2⟩) (fun i acc x H3 H4 hi e4 hI y R NN hR hNN => ?_) fun D acc H3 hD e3 hDl hal hI => ?_⟩
    · obtain ⟨js, hj1, hj2, hj3, hj4⟩ := hI
      obtain ⟨TT, va, vb, rfl, hva, hvb, hTT, _⟩ := yp_get y
      obtain ⟨f, q, hf, rfl, hq⟩ := (us2.ei e4.ei).get hva
      obtain ⟨hic, rfl⟩ := encI_at hvb
      rw [fdx_get hi] at hf
      cases hf
      refine g_two (stT hTT) ?_
      refine ⟨rfl, ?_⟩
      walk_at "wp"
      refine i_d (fun h => ?_) (fun h => ?_)
      · walk_at "wp"
        refine hR _ _ (Ex.refl _) ⟨js ++ [i], by rw [List.map_append]; exact hj1.snoc hq, by rw [List.length_append, List.length_singleton]; omega, fun j hj => ?_, fun j hj hc => ?_⟩
        · rcases List.mem_append.mp hj with hj | hj
          · exact hj3 j hj
          · rw [List.mem_singleton] at hj
            subst hj
            exact ⟨hi, by omega⟩
        · by_cases e : j = i
          · subst e
            exact List.mem_append_right _ (by simp)
          · exact List.mem_append_left _ (hj4 j (by omega) hc)
      · refine hNN _ (Ex.refl _) ⟨js, hj1, by omega, hj3, fun j hj hc => ?_⟩
        by_cases e : j = i
        · subst e
          exact absurd hc (by omega)
        · exact hj4 j (by omega) hc
    · obtain ⟨js, hj1, hj2, hj3, hj4⟩ := hI
      walk_at "wp"
      have hlen : acc.length = js.length := by rw [hj1.1, List.length_map]
      have gj : ∀ x, x < js.length → ap js x < ds.length ∧ 0 < ap cs (ap js x) := fun x hx => hj3 _ (ap_mem hx)
      have pj : ∀ x, x < js.length → Pm n (fdx ds (ap js x)) := fun x hx => fdx_pm hg (gj x hx).1
      have getj : ∀ {x : Nat} {v : V} {H' : Hp}, TupsAt H' acc (js.map (fdx ds)) → acc[x]? = some v → x < js.length ∧ ∃ q, v = .ref q ∧ H' q = some (.tup (encI (fdx ds (ap js x)))) := fun {x v H'} h e => by
        obtain ⟨f, q, hf, hv, hq⟩ := h.get e
        have hx : x < js.length := by
          have := (List.getElem?_eq_some_iff.mp e).1
          omega
        rw [List.getElem?_map, List.getElem?_eq_getElem hx] at hf
        have e1 : ap js x = js[x] := by
          unfold ap
          rw [List.getD_eq_getElem?_getD, List.getElem?_eq_getElem hx]
          rfl
        refine ⟨hx, q, hv, ?_⟩
        rw [e1, hq, ← Option.some.inj hf]
      have e03 := e2.trans e3
      refine ⟨D, acc, rfl, stL hDl, fr_W walk_enum (fun i σ H4 => Ex H3 H4 ∧ (∃ (o4 o6 o7 o8 o9 o10 : Option V), σ = [some (.ref t), some (.ref b), some (.ref p), some (.int (n : Nat)), o4, some (.ref D), o6, o7, o8, o9, o10]) ∧ ∀ x y, x < i → x < js.length → y < x → cmp (fdx ds (ap js x)) (fdx ds (ap js y)) = cmp (fdx ds (ap js y)) (fdx ds (ap js x)))
        ⟨Ex.refl _, ⟨_, _, _, _, _, _, rfl⟩, fun x y h => by omega⟩ (fun i σ H4 hi h => stL (h.1 _ _ hDl)) (fun i x σ H4 H5 hi h y => ?_) (fun σ H4 h => ?_)⟩
      · obtain ⟨e4, ⟨o4, o6, o7, o8, o9, o10, rfl⟩, hcm⟩ := h
        obtain ⟨TT, va, vb, rfl, hva, hvb, hTT, e5⟩ := yp_get y
        cases hva
        have e45 := e4.trans e5
        obtain ⟨hij, qi, rfl, hqi⟩ := getj (hj1.ei e45.ei) hvb
        refine g_two (stT hTT) ?_
        walk_at "wp"
        refine ⟨_, rfl, ?_⟩
        refine r_slL (i := i) (stL (e45 _ _ hDl)) fun S H6 hS e6 h6 => ?_
        refine ⟨S, rfl, ⟨_, stL h6⟩, fr_W walk_list (fun m σ H7 => Ex H6 H7 ∧ (∃ (o4 o8 o9 o10 : Option V), σ = [some (.ref t), some (.ref b), some (.ref p), some (.int (n : Nat)), o4, some (.ref D), some (.ref qi), some (.int (i : Nat)), o8, o9, o10]) ∧ ∀ y, y < m → y < i → cmp (fdx ds (ap js i)) (fdx ds (ap js y)) = cmp (fdx ds (ap js y)) (fdx ds (ap js i)))
          ⟨Ex.refl _, ⟨_, _, _, _, rfl⟩, fun y h => by omega⟩ (fun m σ H7 hm h => stL (h.1 _ _ h6)) (fun m x σ H7 H8 hm h y => ?_) (fun σ H7 h => ?_)⟩
        · obtain ⟨e7, ⟨o4, o8, o9, o10, rfl⟩, hcm2⟩ := h
          obtain ⟨rfl, hx⟩ := y
          have hmi : m < i := by
            have := (List.getElem?_eq_some_iff.mp hx).1
            rw [List.length_take] at this
            omega
          rw [List.getElem?_take_of_lt hmi] at hx
          have e67 := e6.trans e7
          obtain ⟨hmj, qm, rfl, hqm⟩ := getj (hj1.ei (e45.trans e67).ei) hx
          have hqi2 := e67 _ _ hqi
          have pi := pj i hij
          have pm := pj m hmj
          walk_at "wp"
          refine ⟨qi, qm, _, _, rfl, .inr hqi2, .inr hqm, fun y hy => by rw [pm.len]; exact pi.lt y hy, by rw [pi.len]; omega, fun r1 H9 hr1 e9 h9 => ?_⟩
          walk_at "wp"
          refine ⟨qm, qi, _, _, rfl, .inr (e9 _ _ hqm), .inr (e9 _ _ hqi2), fun y hy => by rw [pi.len]; exact pm.lt y hy, by rw [pm.len]; omega, fun r2 HA hr2 eA hA2 => ?_⟩
          walk_at "wp"
          refine r_neL (stL (eA _ _ h9)) (stL hA2) ?_
          walk_at "wp"
          have e0A := e03.trans (e45.trans (e67.trans (e9.trans eA)))
          refine i_n (fun hne => ?_) (fun heq => ?_)
          · walk_at "wp"
            refine r_lenL (stL (e0A _ _ hp)) ?_
            rw [hes.1]
            walk_at "wp"
            have h2 : 1 < E.length := ends_two hA hE hg.apart (i := ap js i) (j := ap js m) (by rw [hN]; exact (gj i hij).1) (by rw [hN]; exact (gj m hmj).1) (gj i hij).2 (gj m hmj).2 (by
              rw [← fdx_eq hg, ← fdx_eq hg]
              exact hne)
            have hd2 : decide ((1 : Int) < ((E.length : Nat) : Int)) = true := decide_eq_true (by omega)
            rw [hd2]
            exact k _ e0A
          · walk_at "wp"
            exact ⟨e7.trans (e9.trans eA), ⟨_, _, _, _, rfl⟩, fun y hy hyi => by
              by_cases e : y = m
              · subst e
                exact heq
              · exact hcm2 y (by omega) hyi⟩
        · obtain ⟨e7, ⟨o4, o8, o9, o10, rfl⟩, hcm2⟩ := h
          refine ⟨e45.trans (e6.trans e7), ⟨_, _, _, _, _, _, rfl⟩, fun x' y' hx hxj hyx => ?_⟩
          by_cases e : x' = i
          · rw [e]
            exact hcm2 y' (by rw [List.length_take, hlen]; omega) (by omega)
          · exact hcm x' y' (by omega) hxj hyx
      · obtain ⟨e4, ⟨o4, o6, o7, o8, o9, o10, rfl⟩, hcm⟩ := h
        walk_at "wp"
        have e04 := e03.trans e4
        refine r_lenL (stL (e04 _ _ hp)) ?_
        rw [hes.1]
        walk_at "wp"
        have h1 : E.length = 1 := ends_one hA hE fun i j hi hj ci cj => by
          rw [← fdx_eq hg, ← fdx_eq hg]
          rw [hN] at hi hj
          obtain ⟨x, hx, rfl⟩ := List.getElem_of_mem (hj4 i hi ci)
          obtain ⟨y, hy, rfl⟩ := List.getElem_of_mem (hj4 j hj cj)
          have ea : ∀ z (hz : z < js.length), js[z] = ap js z := fun z hz => by
            unfold ap
            rw [List.getD_eq_getElem?_getD, List.getElem?_eq_getElem hz]
            rfl
          rw [ea x hx, ea y hy]
          rcases Nat.lt_trichotomy x y with h | h | h
          · exact (hcm y x (by omega) hy h).symm
          · subst h
            rfl
          · exact hcm x y (by omega) hx h
        rw [h1]
        exact k _ e04

end
end Eo
namespace Eo
open PySem PyProof.Rows L2 L2.DX
/-! words of the walk: wp goes on where nothing is open; hl looks an object up; ex: what stood stands -/
local macro_rules | `(tactic| walk_at "hl") => `(tactic| first | assumption | exact PlT.sq (by assumption) | (refine stT ?_; walk_at "hl") | (refine stL ?_; walk_at "hl") | (refine Ex.at (by assumption) ?_; walk_at "hl") | (refine Mu.tup (by assumption) ?_; walk_at "hl") | (refine Ex.sqT (by assumption) ?_; walk_at "hl") | (refine Ex.sqL (by assumption) ?_; walk_at "hl") | (refine Ex.plT (by assumption) ?_; walk_at "hl") | (refine Mu.plT (by assumption) ?_; walk_at "hl"))
local macro_rules | `(tactic| walk_at "ex") => `(tactic| first | assumption | exact Ex.refl _ | (refine Ex.trans ?_ (by assumption); walk_at "ex") | (refine Ex.mu ?_ (by assumption) (by first | assumption | walk_at "fr"); walk_at "ex"))
local macro_rules | `(tactic| walk_at "fr") => `(tactic| first | assumption | (refine Ex.free (by assumption) ?_; walk_at "fr"))
local macro_rules | `(tactic| walk_at "rf") => `(tactic| with_unfolding_all rfl)
local macro_rules | `(tactic| walk_at "wp") => `(tactic| repeat (with_reducible first
  | refine q_seq ?_ | refine q_asg ?_ | refine q_ret ?_ | refine q_drop ?_ | refine q_if ?_ | refine q_next ?_ | refine q_par ?_ | refine q_par3 ?_ | refine q_retN ?_ | refine q_cont ?_ | refine q_brk ?_
  | refine e_var (by with_unfolding_all rfl) ?_ | refine e_c ?_ | refine e_op ?_ | refine e_cons ?_ | refine e_nil ?_ | refine e_test ?_ | refine e_B ?_ | refine e_yes ?_ | refine e_cb ?_ | refine e_call ?_ | refine e_then ?_ | refine e_tup ?_ | refine e_lst ?_
  | refine x_bl ?_ | refine i_T ?_ | refine i_F ?_ | refine x_two ?_ | refine x_three ?_
  | refine r_I0 ?_ | refine r_add ?_ | refine r_ip ?_ | refine g_nm ?_ | refine r_eqI ?_ | refine r_neI ?_ | refine r_eq (by with_unfolding_all rfl) ?_ | refine r_ne (by with_unfolding_all rfl) ?_
  | refine e_not ?_ | refine e_and ?_ | refine e_or ?_ | refine e_andV ?_ | refine e_orV ?_ | refine e_notV ?_ | refine e_ifx ?_ | refine e_idxF ?_ | refine e_idxI ?_ | refine e_sl ?_ | refine e_part ?_ | refine e_nopart ?_ | refine f_revA ?_ | refine e_lenSet ?_ | refine l_dcT ?_ | refine e_sadd ?_ | refine q_asgS ?_ | refine q_augS ?_ | refine e_tupRg ?_ | refine e_lstRg ?_ | refine e_rg1 ?_ | refine e_rg2 ?_ | refine e_dget ?_ | refine e_din ?_ | refine e_dnotin ?_ | refine e_dget2 ?_ | refine q_dput ?_ | refine e_un ?_ | refine e_chain ?_ | refine e_bm ?_ | refine e_bm0 ?_ | refine e_fld ?_ | refine q_asgT ?_
  | refine l_any ?_ | refine l_tup ?_ | refine l_list ?_ | refine l_rng1 ?_ | refine l_rng2 ?_ | refine l_str ?_ | refine l_enumL ?_ | refine l_enumT ?_ | refine l_zip ?_ | refine l_zipM ?_
  | refine f_tup ?_ | refine f_list ?_ | refine f_rng1 ?_ | refine f_enumL ?_ | refine f_enumT ?_))
local macro_rules | `(tactic| walk_at "sz") => `(tactic| first | decide | (refine small ?_; simp; done) | (refine small ?_; simp; omega) | (refine smallL ?_; simp; done) | (refine smallL ?_; simp; omega) | (simp; done) | (simp; omega))
section
variable {P : Program} {w : World} {K : PySem.W.Frag} {mg : Str → Option Value} {base : Heap} {C : Addr} {A : Nat → Addr} {FD : Nat → FuncData}
section
variable {κ : Type} [DecidableEq κ]
theorem valV_mem {k : κ} {v : V} : ∀ {kvs : List (κ × V)}, valV kvs k = some v → (k, v) ∈ kvs
  | [], h => by cases h
  | (k', v') :: kvs, h => by
    by_cases e : k' = k
    · rw [valV_pos e] at h
      cases h
      subst e
      exact List.mem_cons_self
    · rw [valV_neg e] at h
      exact List.mem_cons_of_mem _ (valV_mem h)
theorem valV_of_key {k : κ} {kvs : List (κ × V)} (h : k ∈ kvs.map (·.1)) : ∃ v, valV kvs k = some v := by
  cases e : valV kvs k with
  | some v => exact ⟨v, rfl⟩
  | none => exact absurd h (valV_not e)
theorem mem_putK {k : κ} {v : V} {kvs : List (κ × V)} {p : κ × V} (h : p ∈ putK kvs k v) : p ∈ kvs ∨ p = (k, v) := by
  unfold putK at h
  split at h
  · obtain ⟨q, hq, rfl⟩ := List.mem_map.mp h
    split
    · rename_i e
      subst e
      exact .inr rfl
    · exact .inl hq
  · rcases List.mem_append.mp h with h | h
    · exact .inl h
    · exact .inr (List.mem_singleton.mp h)
end
theorem list_choose {α β : Type} {R : α → β → Prop} : ∀ l : List α, (∀ x ∈ l, ∃ y, R x y) → ∃ l' : List β, l'.length = l.length ∧ ∀ (i : Nat) x y, l[i]? = some x → l'[i]? = some y → R x y
  | [], _ => ⟨[], rfl, fun i x y h => by simp at h⟩
  | a :: l, h => by
    obtain ⟨y, hy⟩ := h a (by simp)
    obtain ⟨l', h1, h2⟩ := list_choose l fun x hx => h x (List.mem_cons_of_mem _ hx)
    refine ⟨y :: l', by simp [h1], fun i x z hx hz => ?_⟩
    match i, hx, hz with
    | 0, hx, hz => cases hx; cases hz; exact hy
    | i + 1, hx, hz => exact h2 i x z hx hz
theorem nodup_of_map {α β : Type} {g : α → β} : ∀ {l : List α}, (l.map g).Nodup → l.Nodup
  | [], _ => List.nodup_nil
  | x :: l, h => by
    rw [List.map_cons, List.nodup_cons] at h
    exact List.nodup_cons.mpr ⟨fun m => h.1 (List.mem_map.mpr ⟨x, m, rfl⟩), nodup_of_map h.2⟩
def effK (E : List (List Nat)) : List (List Key × V) := E.map fun e => (encK e, V.bl true)
theorem effK_inj {E F : List (List Nat)} (h : effK E = effK F) : E = F := by
  unfold effK at h
  exact List.map_inj_right (fun x y e => encK_inj (Prod.mk.inj e).1) |>.mp h
theorem effK_keys (E : List (List Nat)) : (effK E).map (·.1) = E.map encK := by unfold effK; rw [List.map_map]; rfl
def addE (E : List (List Nat)) (e : List Nat) : List (List Nat) := if e ∈ E then E else E ++ [e]
theorem put_effK (E : List (List Nat)) (e : List Nat) : putK (effK E) (encK e) (.bl true) = effK (addE E e) := by
  unfold addE
  by_cases h : e ∈ E
  · rw [if_pos h]
    unfold putK
    have ha : ((effK E).any fun kv => decide (kv.1 = encK e)) = true := List.any_eq_true.mpr ⟨(encK e, .bl true), List.mem_map.mpr ⟨e, h, rfl⟩, by simp⟩
    rw [if_pos ha]
    have hi : (effK E).map (fun kv => if kv.1 = encK e then (kv.1, V.bl true) else kv) = (effK E).map id := List.map_congr_left fun kv hkv => by
      obtain ⟨x, hx, rfl⟩ := List.mem_map.mp hkv
      show (if encK x = encK e then (encK x, V.bl true) else (encK x, V.bl true)) = (encK x, V.bl true)
      rw [ite_self]
    rw [hi, List.map_id]
  · rw [if_neg h, putK_new _ (valV_none (by
      rw [effK_keys]
      intro q
      obtain ⟨x, hx, e2⟩ := List.mem_map.mp q
      exact h (encK_inj e2 ▸ hx)))]
    unfold effK
    rw [List.map_append]
    rfl
/-- the dict of the later layer, n its counts' dicts of effects -/
structure LatAt (H0 H : Hp) (n : Nat) (ds : Ds) (L : Nat) (lt : Addr) (kvs : List (List Key × V)) : Prop where
  at_ : H lt = some (.dT kvs)
  new : H0 lt = none
  nd : (kvs.map (·.1)).Nodup
  ent : ∀ k v, (k, v) ∈ kvs → ∃ (w : List Str) (q : Addr) (E : List (List Nat)), w.length = L ∧ Over (nms ds) w ∧ k = encK (cn (nms ds) w) ∧ v = .ref q ∧ q ≠ lt ∧ H0 q = none ∧ H q = some (.dT (effK E)) ∧ E.Nodup ∧ ∀ e ∈ E, ∃ u, u.length = L ∧ Over (nms ds) u ∧ cn (nms ds) u = cn (nms ds) w ∧ e = eff n ds u
  inj : ∀ k1 k2 q, (k1, V.ref q) ∈ kvs → (k2, V.ref q) ∈ kvs → k1 = k2
def HasE (H : Hp) (kvs : List (List Key × V)) (cs : List Nat) (e : List Nat) : Prop := ∃ q E, (encK cs, V.ref q) ∈ kvs ∧ H q = some (.dT (effK E)) ∧ e ∈ E
theorem LatAt.ex {H0 H H' : Hp} {n L : Nat} {ds : Ds} {lt : Addr} {kvs : List (List Key × V)} (h : LatAt H0 H n ds L lt kvs) (x : Ex H H') : LatAt H0 H' n ds L lt kvs :=
  ⟨x _ _ h.at_, h.new, h.nd, fun k v hk => let ⟨w, q, E, h1, h2, h3, h4, h5, h6, h7, h8⟩ := h.ent k v hk; ⟨w, q, E, h1, h2, h3, h4, h5, h6, x _ _ h7, h8⟩, h.inj⟩
theorem HasE.ex {H H' : Hp} {kvs : List (List Key × V)} {cs e : List Nat} (h : HasE H kvs cs e) (x : Ex H H') : HasE H' kvs cs e := let ⟨q, E, h1, h2, h3⟩ := h; ⟨q, E, h1, x _ _ h2, h3⟩
theorem LatAt.touch {H0 H1 H2 H3 : Hp} {n L : Nat} {ds : Ds} {lt q : Addr} {kvs : List (List Key × V)} {w : List Str} (h : LatAt H0 H1 n ds L lt kvs) (e0 : Ex H0 H1) (e : Ex H1 H2) (hq : H1 q = none) (hq2 : H2 q = some (.dT [])) (hw : w.length = L) (ho : Over (nms ds) w)
    (hv : valV kvs (encK (cn (nms ds) w)) = none) (m : Mu lt H2 H3) (h3 : H3 lt = some (.dT (kvs ++ [(encK (cn (nms ds) w), .ref q)]))) : LatAt H0 H3 n ds L lt (kvs ++ [(encK (cn (nms ds) w), .ref q)]) ∧ ∀ cs f, HasE H1 kvs cs f → HasE H3 (kvs ++ [(encK (cn (nms ds) w), .ref q)]) cs f := by
  have hk := valV_not hv
  have hql : q ≠ lt := fun e1 => by rw [e1, h.at_] at hq; cases hq
  have notq : ∀ k, (k, V.ref q) ∉ kvs := fun k hk => by
    obtain ⟨w2, q2, E, _, _, _, h4, _, _, h7, _⟩ := h.ent _ _ hk
    cases h4
    rw [h7] at hq
    cases hq
  refine ⟨⟨h3, h.new, ?_, fun k v hkv => ?_, fun k1 k2 q' g1 g2 => ?_⟩, fun cs f hf => ?_⟩
  · rw [List.map_append, List.nodup_append]
    exact ⟨h.nd, by simp, fun x hx y hy e1 => by
      rw [List.map_singleton, List.mem_singleton] at hy
      subst hy
      subst e1
      exact hk hx⟩
  · rcases List.mem_append.mp hkv with hkv | hkv
    · obtain ⟨w2, q2, E, h1, h2, h3', h4, h5, h6, h7, h8⟩ := h.ent k v hkv
      exact ⟨w2, q2, E, h1, h2, h3', h4, h5, h6, m.rest _ _ h5 (e _ _ h7), h8⟩
    · cases List.mem_singleton.mp hkv
      exact ⟨w, q, [], hw, ho, rfl, rfl, hql, e0.free hq, m.rest _ _ hql hq2, List.nodup_nil, fun f hf => nm0 hf⟩
  · rcases List.mem_append.mp g1 with g1 | g1
    · rcases List.mem_append.mp g2 with g2 | g2
      · exact h.inj _ _ _ g1 g2
      · cases List.mem_singleton.mp g2
        exact absurd g1 (notq _)
    · rcases List.mem_append.mp g2 with g2 | g2
      · cases List.mem_singleton.mp g1
        exact absurd g2 (notq _)
      · cases List.mem_singleton.mp g1
        cases List.mem_singleton.mp g2
        rfl
  · obtain ⟨q', E, f1, f2, f3⟩ := hf
    obtain ⟨_, q2, _, _, _, _, h4, h5, _⟩ := h.ent _ _ f1
    cases h4
    exact ⟨q', E, List.mem_append_left _ f1, m.rest _ _ h5 (e _ _ f2), f3⟩
theorem addE_mem {E : List (List Nat)} {e f : List Nat} : f ∈ addE E e ↔ f ∈ E ∨ f = e := by
  unfold addE
  by_cases h : e ∈ E
  · rw [if_pos h]
    exact ⟨.inl, fun q => q.elim id fun q => q ▸ h⟩
  · rw [if_neg h, List.mem_append, List.mem_singleton]
theorem addE_nd {E : List (List Nat)} {e : List Nat} (nd : E.Nodup) : (addE E e).Nodup := by
  unfold addE
  by_cases h : e ∈ E
  · rw [if_pos h]
    exact nd
  · rw [if_neg h, List.nodup_append]
    exact ⟨nd, by simp, fun x hx y hy e1 => by rw [List.mem_singleton] at hy; subst hy; subst e1; exact h hx⟩
theorem LatAt.add {H0 H H' : Hp} {n L : Nat} {ds : Ds} {lt q : Addr} {kvs : List (List Key × V)} {w u : List Str} {E : List (List Nat)} (h : LatAt H0 H n ds L lt kvs) (hk : (encK (cn (nms ds) w), V.ref q) ∈ kvs) (hE : H q = some (.dT (effK E))) (hu : u.length = L) (ho : Over (nms ds) u) (hc : cn (nms ds) u = cn (nms ds) w)
    (m : Mu q H H') (h' : H' q = some (.dT (effK (addE E (eff n ds u))))) : LatAt H0 H' n ds L lt kvs ∧ (∀ cs f, HasE H kvs cs f → HasE H' kvs cs f) ∧ HasE H' kvs (cn (nms ds) w) (eff n ds u) := by
  obtain ⟨w0, q0, E0, c1, c2, c3, c4, c5, c6, c7, c8, c9⟩ := h.ent _ _ hk
  cases c4
  have e0 : E0 = E := by
    rw [hE] at c7
    injection c7 with c7
    injection c7 with c7
    exact (effK_inj c7).symm
  subst e0
  refine ⟨⟨m.rest _ _ (Ne.symm c5) h.at_, h.new, h.nd, fun k v hkv => ?_, h.inj⟩, fun cs f hf => ?_, ⟨q, _, hk, h', addE_mem.mpr (.inr rfl)⟩⟩
  · obtain ⟨w2, q2, E2, h1, h2, h3, h4, h5, h6, h7, h8, h9⟩ := h.ent k v hkv
    by_cases e : q2 = q
    · subst e
      subst h4
      have ek := h.inj _ _ _ hkv hk
      have e2 : E2 = E0 := by
        rw [hE] at h7
        injection h7 with h7
        injection h7 with h7
        exact (effK_inj h7).symm
      subst e2
      have ew : cn (nms ds) w2 = cn (nms ds) w := encK_inj (h3.symm.trans ek)
      refine ⟨w2, q2, _, h1, h2, h3, rfl, h5, h6, h', addE_nd h8, fun f hf => ?_⟩
      rcases addE_mem.mp hf with hf | hf
      · exact h9 f hf
      · exact ⟨u, hu, ho, by rw [hc, ew], hf⟩
    · exact ⟨w2, q2, E2, h1, h2, h3, h4, h5, h6, m.rest _ _ e h7, h8, h9⟩
  · obtain ⟨q', E', f1, f2, f3⟩ := hf
    by_cases e : q' = q
    · subst e
      have e2 : E' = E0 := by
        rw [hE] at f2
        injection f2 with f2
        injection f2 with f2
        exact (effK_inj f2).symm
      subst e2
      exact ⟨q', _, f1, h', addE_mem.mpr (.inl f3)⟩
    · exact ⟨q', E', f1, m.rest _ _ e f2, f3⟩
/-- a layer's table, read as a list -/
theorem LatAt.list {H0 H : Hp} {n L : Nat} {ds : Ds} {lt : Addr} {kvs : List (List Key × V)} (h : LatAt H0 H n ds L lt kvs) : ∃ G : List (List Nat × List (List Nat)), G.length = kvs.length ∧ (∀ (i : Nat) k v p, kvs[i]? = some (k, v) → G[i]? = some p → ∃ (w : List Str) (q : Addr), w.length = L ∧ Over (nms ds) w ∧ p.1 = cn (nms ds) w ∧ k = encK p.1 ∧ v = .ref q ∧ q ≠ lt ∧ H0 q = none ∧ H q = some (.dT (effK p.2)) ∧ p.2.Nodup ∧ ∀ e ∈ p.2, ∃ u, u.length = L ∧ Over (nms ds) u ∧ cn (nms ds) u = p.1 ∧ e = eff n ds u) := by
  obtain ⟨G, h1, h2⟩ := list_choose (R := fun (x : List Key × V) (p : List Nat × List (List Nat)) => ∃ (w : List Str) (q : Addr), w.length = L ∧ Over (nms ds) w ∧ p.1 = cn (nms ds) w ∧ x.1 = encK p.1 ∧ x.2 = .ref q ∧ q ≠ lt ∧ H0 q = none ∧ H q = some (.dT (effK p.2)) ∧ p.2.Nodup ∧ ∀ e ∈ p.2, ∃ u, u.length = L ∧ Over (nms ds) u ∧ cn (nms ds) u = p.1 ∧ e = eff n ds u) kvs (fun x hx => by
    obtain ⟨w, q, E, g1, g2, g3, g4, g5, g6, g7, g8, g9⟩ := h.ent x.1 x.2 hx
    exact ⟨(cn (nms ds) w, E), w, q, g1, g2, rfl, g3, g4, g5, g6, g7, g8, g9⟩)
  exact ⟨G, h1, fun i k v p hk hp => h2 i (k, v) p hk hp⟩
theorem pow_small {a b : Nat} (ha : a ≤ 3) (hb : b ≤ 6) : a ^ b ≤ 729 := Nat.le_trans (Nat.pow_le_pow_left ha b) (Nat.le_trans (Nat.pow_le_pow_right (by omega) hb) (by decide))
theorem encI_inc {cs : List Nat} {a : Nat} : ((encI cs).take a ++ [V.int (((ap cs a : Nat) : Int) + 1)]) ++ (encI cs).drop (a + 1) = encI (inc cs a) := by
  unfold inc encI
  rw [List.map_append, List.map_append, List.map_take, List.map_drop]
  rfl
theorem e_dset {td ty tx : TE} {σ : L2.St} {H : Hp} {Q : VK} (k : td σ H fun x H1 => ∃ a, x = .ref a ∧ IsD H1 a ∧ ty σ H1 fun y H2 => tx σ H2 fun z H3 => ∃ (kvs : List (List Key × V)) (k : List Key) (b : Addr), H3 a = some (.dT kvs) ∧ y = .ref b ∧ H3 b = some (.tup (k.map kV)) ∧ kvs.length < sizeLine ∧
  (∀ v, valV kvs k = some v → Q v H3) ∧ (valV kvs k = none → Q z (upd H3 a (.dT (putK kvs k z))))) : tDSetT td ty tx σ H Q := k
/-- the whole table -/
def EndTab (H : Hp) (n : Nat) (ds : Ds) (kvs : List (List Key × V)) : Prop := ∀ k v, (k, v) ∈ kvs → ∃ cs E p es, k = encK cs ∧ v = .ref p ∧ H p = some (.lst es) ∧ TupsAt H es E ∧ EndsOK n ds (nms ds) cs E
theorem EndTab.keep {H H' : Hp} {n : Nat} {ds : Ds} {kvs : List (List Key × V)} (h : EndTab H n ds kvs) (e : ∀ b o, H b = some o → (∀ k, o ≠ .dT k) → H' b = some o) : EndTab H' n ds kvs := fun k v hk => by
  obtain ⟨cs, E, p, es, h1, h2, h3, h4, h5⟩ := h k v hk
  refine ⟨cs, E, p, es, h1, h2, e _ _ h3 (fun _ q => nomatch q), ⟨h4.1, fun i f hi => ?_⟩, h5⟩
  obtain ⟨q, g1, g2⟩ := h4.2 i f hi
  exact ⟨q, g1, e _ _ g2 fun _ z => nomatch z⟩
theorem EndTab.get {H : Hp} {n : Nat} {ds : Ds} {kvs : List (List Key × V)} {cs : List Nat} {v : V} (h : EndTab H n ds kvs) (hv : valV kvs (encK cs) = some v) : ∃ E p es, v = .ref p ∧ H p = some (.lst es) ∧ TupsAt H es E ∧ EndsOK n ds (nms ds) cs E := by
  obtain ⟨cs', E, p, es, h1, h2⟩ := h _ _ (valV_mem hv)
  rw [encK_inj h1]
  exact ⟨E, p, es, h2⟩
theorem LatAt.nil {H0 H : Hp} {n L : Nat} {ds : Ds} {lt : Addr} (h0 : H0 lt = none) (h : H lt = some (.dT [])) : LatAt H0 H n ds L lt [] := ⟨h, h0, List.nodup_nil, fun k v hk => nm0 hk, fun k1 k2 q hk => nm0 hk⟩
theorem LatAt.dset {Q : VK} {H0 H1 H3 : Hp} {n L : Nat} {ds : Ds} {lt q b : Addr} {kvs : List (List Key × V)} {w : List Str} (h : LatAt H0 H1 n ds L lt kvs) (e0 : Ex H0 H1) (e : Ex H1 H3) (hq : H1 q = none) (hq3 : H3 q = some (.dT [])) (hb : H3 b = some (.tup (encI (cn (nms ds) w)))) (hw : w.length = L) (ho : Over (nms ds) w) (hl : kvs.length < 100000)
    (k : ∀ qk kv4 H4, Ex H0 H4 → LatAt H0 H4 n ds L lt kv4 → (encK (cn (nms ds) w), V.ref qk) ∈ kv4 → (∀ cs f, HasE H1 kvs cs f → HasE H4 kv4 cs f) → Q (.ref qk) H4) :
    ∃ (kvs : List (List Key × V)) (k : List Key) (b' : Addr), H3 lt = some (.dT kvs) ∧ V.ref b = .ref b' ∧ H3 b' = some (.tup (k.map kV)) ∧ kvs.length < sizeLine ∧ (∀ v, valV kvs k = some v → Q v H3) ∧ (valV kvs k = none → Q (.ref q) (upd H3 lt (.dT (putK kvs k (.ref q))))) := by
  refine ⟨kvs, encK (cn (nms ds) w), b, e _ _ h.at_, rfl, by rw [encK_V]; exact hb, smallL hl, fun v hv => ?_, fun hv => ?_⟩
  · have hm := valV_mem hv
    obtain ⟨_, qk, _, _, _, _, h4, _⟩ := h.ent _ _ hm
    subst h4
    exact k qk kvs H3 (e0.trans e) (h.ex e) hm fun cs f hf => hf.ex e
  · have m : Mu lt H3 (upd H3 lt (.dT (putK kvs (encK (cn (nms ds) w)) (.ref q)))) := Mu.of (e _ _ h.at_) rfl
    have h3 : (upd H3 lt (.dT (putK kvs (encK (cn (nms ds) w)) (.ref q)))) lt = some (.dT (kvs ++ [(encK (cn (nms ds) w), .ref q)])) := by rw [upd_same, putK_new _ hv]
    generalize upd H3 lt (.dT (putK kvs (encK (cn (nms ds) w)) (.ref q))) = H4 at m h3
    obtain ⟨g1, g2⟩ := h.touch e0 e hq hq3 hw ho hv m h3
    exact k q _ H4 ((e0.trans e).mu m h.new) g1 (List.mem_append_right _ (by simp)) g2
theorem LatAt.few {H0 H : Hp} {n L : Nat} {ds : Ds} {lt : Addr} {kvs : List (List Key × V)} (h : LatAt H0 H n ds L lt kvs) : kvs.length ≤ (nms ds).length ^ L := by
  have := few_cn (N := nms ds) (L := L) h.nd (fun w => encK (cn (nms ds) w)) fun c hc => by
    obtain ⟨p, hp, rfl⟩ := List.mem_map.mp hc
    obtain ⟨w, _, _, h1, h2, h3, _⟩ := h.ent p.1 p.2 hp
    exact ⟨w, h1, h2, h3.symm⟩
  rw [List.length_map] at this
  exact this

end
end Eo
namespace Eo
open PySem PyProof.Rows L2 L2.DX
/-! words of the walk: wp goes on where nothing is open; hl looks an object up; ex: what stood stands -/
local macro_rules | `(tactic| walk_at "hl") => `(tactic| first | assumption | exact PlT.sq (by assumption) | (refine stT ?_; walk_at "hl") | (refine stL ?_; walk_at "hl") | (refine Ex.at (by assumption) ?_; walk_at "hl") | (refine Mu.tup (by assumption) ?_; walk_at "hl") | (refine Ex.sqT (by assumption) ?_; walk_at "hl") | (refine Ex.sqL (by assumption) ?_; walk_at "hl") | (refine Ex.plT (by assumption) ?_; walk_at "hl") | (refine Mu.plT (by assumption) ?_; walk_at "hl"))
local macro_rules | `(tactic| walk_at "ex") => `(tactic| first | assumption | exact Ex.refl _ | (refine Ex.trans ?_ (by assumption); walk_at "ex") | (refine Ex.mu ?_ (by assumption) (by first | assumption | walk_at "fr"); walk_at "ex"))
local macro_rules | `(tactic| walk_at "fr") => `(tactic| first | assumption | (refine Ex.free (by assumption) ?_; walk_at "fr"))
local macro_rules | `(tactic| walk_at "rf") => `(tactic| with_unfolding_all rfl)
local macro_rules | `(tactic| walk_at "wp") => `(tactic| repeat (with_reducible first
  | refine q_seq ?_ | refine q_asg ?_ | refine q_ret ?_ | refine q_drop ?_ | refine q_if ?_ | refine q_next ?_ | refine q_par ?_ | refine q_par3 ?_ | refine q_retN ?_ | refine q_cont ?_ | refine q_brk ?_
  | refine e_var (by with_unfolding_all rfl) ?_ | refine e_c ?_ | refine e_op ?_ | refine e_cons ?_ | refine e_nil ?_ | refine e_test ?_ | refine e_B ?_ | refine e_yes ?_ | refine e_cb ?_ | refine e_call ?_ | refine e_then ?_ | refine e_tup ?_ | refine e_lst ?_
  | refine x_bl ?_ | refine i_T ?_ | refine i_F ?_ | refine x_two ?_ | refine x_three ?_
  | refine r_I0 ?_ | refine r_add ?_ | refine r_ip ?_ | refine g_nm ?_ | refine r_eqI ?_ | refine r_neI ?_ | refine r_eq (by with_unfolding_all rfl) ?_ | refine r_ne (by with_unfolding_all rfl) ?_
  | refine e_not ?_ | refine e_and ?_ | refine e_or ?_ | refine e_andV ?_ | refine e_orV ?_ | refine e_notV ?_ | refine e_ifx ?_ | refine e_idxF ?_ | refine e_idxI ?_ | refine e_sl ?_ | refine e_part ?_ | refine e_nopart ?_ | refine f_revA ?_ | refine e_lenSet ?_ | refine l_dcT ?_ | refine e_sadd ?_ | refine q_asgS ?_ | refine q_augS ?_ | refine e_tupRg ?_ | refine e_lstRg ?_ | refine e_rg1 ?_ | refine e_rg2 ?_ | refine e_dget ?_ | refine e_din ?_ | refine e_dnotin ?_ | refine e_dget2 ?_ | refine q_dput ?_ | refine e_un ?_ | refine e_chain ?_ | refine e_bm ?_ | refine e_bm0 ?_ | refine e_fld ?_ | refine q_asgT ?_
  | refine l_any ?_ | refine l_tup ?_ | refine l_list ?_ | refine l_rng1 ?_ | refine l_rng2 ?_ | refine l_str ?_ | refine l_enumL ?_ | refine l_enumT ?_ | refine l_zip ?_ | refine l_zipM ?_
  | refine f_tup ?_ | refine f_list ?_ | refine f_rng1 ?_ | refine f_enumL ?_ | refine f_enumT ?_))
local macro_rules | `(tactic| walk_at "sz") => `(tactic| first | decide | (refine small ?_; simp; done) | (refine small ?_; simp; omega) | (refine smallL ?_; simp; done) | (refine smallL ?_; simp; omega) | (simp; done) | (simp; omega))
section
variable {P : Program} {w : World} {K : PySem.W.Frag} {mg : Str → Option Value} {base : Heap} {C : Addr} {A : Nat → Addr} {FD : Nat → FuncData}
def sp_L_ends : Sp := fun vs H Q _ => ∃ (t : Addr) (M n : Nat) (ds : Ds) (us : List V), vs = [.ref t, .int (M : Nat)] ∧ H t = some (.lst us) ∧ TupsAt H us (ds.map (·.2)) ∧ Good n ds ∧ M ≤ 6 ∧ ds.length ≤ 3 ∧ ∀ d kvs H', Ex H H' → H' d = some (.dT kvs) → EndTab H' n ds kvs → Q (.ref d) H'
theorem ok_L_ends (T : Tx K mg C A FD) : (FnOk P w K mg base CX0 1 (A 61) (FD 61) ["_law_turns", "_law_most"] sp_L_ends) := by
  refine T.d_L_ends.F.ok sc_L_ends (fun vs H Q E h => by obtain ⟨t, M, n, ds, us, rfl, ht, hus, hg, hM, h3, k⟩ := h; rfl) (fun cdv A0 outer s H vs Q E hr h => ?_)
  obtain ⟨t, M, n, ds, us, rfl, ht, hus, hg, hM, h3, k⟩ := h
  have hu := hu_of hr
  have hu64 := hr.units
  have hu2 : _ + 65 < cLine := (fun {A : Around} {k} (hr : Room k A) => (by have := hr.un; omega : A.units + 65 < cLine)) hr
  refine ⟨_, (pss_cons (ps_set (i := 2) sc_L_ends.nd rfl (.inl rfl) (pe_callB (kcall_len K) (by rfl) T.z_len (by decide +kernel) (pa_cons (pv 0) pa_nil)))
    (pss_cons (ps_set (i := 3) sc_L_ends.nd rfl (.inl rfl) (pe_tupRg rfl (by rfl) T.z_tuple (prg_1 (by rfl) T.z_range (pe_callB (kcall_len K) (by rfl) T.z_len (by decide +kernel) (pa_cons (pe_ix (kix_list K) (pv 0) pe_int (fun _ _ => rfl)) pa_nil)))))
    (pss_cons (ps_set (i := 4) sc_L_ends.nd rfl (.inl rfl) (pe_disp1T hu (kpe_tupleOf K (by rfl) T.z_tuple (pe_op op_rep (pe_lst (pa_cons pe_int pa_nil)) (pv 2))) (pe_lst (pa_cons (pv 3) pa_nil))))
    (pss_cons (ps_set (i := 5) sc_L_ends.nd rfl (.inl rfl) (pe_lst (pa_cons (kpe_tupleOf K (by rfl) T.z_tuple (pe_op op_rep (pe_lst (pa_cons pe_int pa_nil)) (pv 2))) pa_nil)))
    (pss_cons (ps_for PassesOwn.never rfl (pi_range1 (by rfl) T.z_range (pa_cons (pv 1) pa_nil)) (pg_name (i := 6) sc_L_ends.nd rfl (by first | exact .inl rfl | exact .inr rfl)) (pss_cons (ps_set (i := 7) sc_L_ends.nd rfl (.inl rfl) pe_dnewT)
      (pss_cons (ps_for PassesOwn.never rfl (kpi_list K (pv 5)) (pg_name (i := 8) sc_L_ends.nd rfl (by first | exact .inl rfl | exact .inr rfl)) (pss_one (ps_for PassesOwn.never rfl (kpi_enum K (by rfl) T.z_enumerate (pa_cons (pv 0) pa_nil)) (kpg_tup K (n := 2) (by rfl) (pgs_cons (pg_name (i := 9) sc_L_ends.nd rfl (by first | exact .inl rfl | exact .inr rfl)) (pgs_cons (pg_name (i := 10) sc_L_ends.nd rfl (by first | exact .inl rfl | exact .inr rfl)) pgs_nil))) (pss_cons (ps_set (i := 11) sc_L_ends.nd rfl (.inl rfl) (pe_op (kop_catA K) (pe_op (kop_catA K) (pe_slice (ksl_tupA K) (pv 8) po_none (po_some (pv 9))) (pe_tup (pa_cons (pe_op op_add (pe_ix (kix_tup K) (pv 8) (pv 9) (fun _ _ => rfl)) pe_int) pa_nil))) (pe_slice (ksl_tupA K) (pv 8) (po_some (pe_op op_add (pv 9) pe_int)) po_none)))
          (pss_cons (ps_set (i := 12) sc_L_ends.nd rfl (.inl rfl) (pe_dsetT hu (pv 7) (pv 11) pe_dnewT ⟨rfl, rfl, rfl, rfl⟩))
          (pss_one (ps_for PassesOwn.never rfl (kpi_list K (pe_dget hu (pv 4) (pv 8) (fun _ _ => rfl))) (pg_name (i := 13) sc_L_ends.nd rfl (by first | exact .inl rfl | exact .inr rfl)) (pss_one (ps_dput hu (pv 12) (kpe_tupleOf K (by rfl) T.z_tuple (pe_lc rfl sc_L_ends.nd (kpi_tup K (pv 13)) (blkOk_by (own := [("_law_state", 14)]) (N := N_L_ends) (sc := defScope s_L_ends) (by decide +kernel)) (fun _ _ _ _ _ => (pg_name (i := 14) sc_L_ends.nd rfl (by first | exact .inl rfl | exact .inr rfl))) (fun _ _ _ _ _ => pts_nil) (fun _ _ _ _ _ => (pe_ix (kix_tup K) (pv 10) (pv 14) (fun _ _ => rfl))))) pe_bl rfl)))))))))
      (pss_cons (ps_set (i := 5) sc_L_ends.nd rfl (.inl rfl) (pe_callTy (kcall_list_dT rfl) (by rfl) T.z_list (by decide +kernel) (pa_cons (pv 7) pa_nil)))
      (pss_one (ps_for PassesOwn.never rfl (kpi_list K (pv 5)) (pg_name (i := 8) sc_L_ends.nd rfl (by first | exact .inl rfl | exact .inr rfl)) (pss_one (ps_dput hu (pv 4) (pv 8) (pe_callTy (kcall_list_dT rfl) (by rfl) T.z_list (by decide +kernel) (pa_cons (pe_dget hu (pv 7) (pv 8) (fun _ _ => rfl)) pa_nil)) rfl))))))))
    (pss_one (ps_ret (pv 4)))))))), ?_⟩
  clear hu hu64 hu2
  walk_at "wp"
  have hA := hg.perm
  have two := hg.two
  have few := hg.few
  have hN : (nms ds).length = ds.length := by simp
  have hul : us.length = ds.length := by rw [hus.1, List.length_map]
  obtain ⟨q0, g1, g2⟩ := hus.2 0 _ (fdx_get hg.has)
  refine r_lenL (stL ht) ?_
  rw [hul]
  walk_at "wp"
  refine r_ixL (n := 0) (stL ht) (atI_ok (n := 0) g1) ?_
  walk_at "wp"
  refine r_lenT (stT g2) ?_
  rw [encI_len, (fdx_pm hg hg.has).len]
  refine ⟨_, rfl, r_rgT (n := n) (by omega) fun no H1 hno e1 h1 => ?_⟩
  walk_at "wp"
  intro fd hfd
  refine e_pairs1 ?_
  have e2 : Ex H1 (upd H1 fd (.dT [])) := Ex.new hfd
  have hfd2 : upd H1 fd (.dT []) fd = some (.dT []) := upd_same
  generalize upd H1 fd (.dT []) = H2 at e2 hfd2
  walk_at "wp"
  refine al (by walk_at "sz") fun z1 H3 hz1 e3 h3' => ?_
  walk_at "wp"
  refine r_rep1 (c := ds.length) h3' (by omega) fun z2 H4 hz2 e4 h4 => ?_
  walk_at "wp"
  have hrep : List.replicate ds.length (V.int 0) = encI (cn (nms ds) []) := by
    rw [cn_nil, hN]
    unfold encI
    rw [List.map_replicate]
    rfl
  rw [hrep] at h4
  refine r_tupE h4 fun z3 H5 hz3 e5 h5 => ?_
  walk_at "wp"
  refine al (by walk_at "sz") fun z4 H6 hz4 e6 h6 => ?_
  have e26 := ((e3.trans e4).trans e5).trans e6
  refine ⟨encK (cn (nms ds) []), z3, _, rfl, by rw [encK_V]; exact e6 _ _ h5, e26 _ _ hfd2, ?_⟩
  generalize hH7 : upd H6 fd (.dT [(encK (cn (nms ds) []), V.ref z4)]) = H7
  have m7 : Mu fd H6 H7 := by rw [← hH7]; exact Mu.of (e26 _ _ hfd2) rfl
  have fd7 : H7 fd = some (.dT [(encK (cn (nms ds) []), V.ref z4)]) := by rw [← hH7]; exact upd_same
  clear hH7
  have hfdH : H fd = none := e1.free hfd
  have e07 : Ex H H7 := ((e1.trans e2).trans e26).mu m7 hfdH
  have no7 := m7.rest no _ (ne_obj (e26 _ _ (e2 _ _ h1)) (e26 _ _ hfd2) fun e => nomatch e) (e26 _ _ (e2 _ _ h1))
  have z47 := m7.rest z4 _ (ne_obj h6 (e26 _ _ hfd2) fun e => nomatch e) h6
  walk_at "wp"
  refine al (by walk_at "sz") fun y1 H8 hy1 e8 h8 => ?_
  walk_at "wp"
  refine r_rep1 (c := ds.length) h8 (by omega) fun y2 H9 hy2 e9 h9 => ?_
  walk_at "wp"
  rw [hrep] at h9
  refine r_tupE h9 fun y3 HA hy3 eA hA3 => ?_
  walk_at "wp"
  refine al (by walk_at "sz") fun la0 HB hla0 eB hB => ?_
  walk_at "wp"
  have e7B := ((e8.trans e9).trans eA).trans eB
  have e0B := e07.trans e7B
  obtain ⟨sok, slay⟩ := start_ok n ds (nms ds)
  refine ⟨(M : Nat), rfl, by omega, by omega, fr_W walk_range (fun i σ H2 => Ex H H2 ∧ ∃ (o6 o7 o8 o9 o10 o11 o12 o13 o14 : Option V) (la : Addr) (ls : List V) (CL : List (List Nat)) (kvs : List (List Key × V)), σ = [some (.ref t), some (.int (M : Nat)), some (.int (ds.length : Nat)), some (.ref no), some (.ref fd), some (.ref la), o6, o7, o8, o9, o10, o11, o12, o13, o14] ∧ H2 fd = some (.dT kvs) ∧ kvs.length ≤ 1 + 729 * i ∧ EndTab H2 n ds kvs ∧ H2 la = some (.lst ls) ∧ TupsAt H2 ls CL ∧ LayerOK (nms ds) i CL ∧ ∀ cs ∈ CL, ∃ v, valV kvs (encK cs) = some v)
    ⟨e0B, _, _, _, _, _, _, _, _, _, la0, [.ref y3], [cn (nms ds) []], _, rfl, e7B _ _ fd7, Nat.le_refl 1, fun kk v hk => ?_, hB, (TupsAt.nil HB).snoc (eB _ _ hA3), slay, fun cs hcs => ?_⟩ (fun _ _ _ _ _ => trivial) (fun i x σ H2z H2 hi h y => ?_) (fun σ H2 h => ?_)⟩
  · cases List.mem_singleton.mp hk
    exact ⟨cn (nms ds) [], [idn n], z4, [.ref no], rfl, rfl, e7B _ _ z47, (TupsAt.nil HB).snoc (e7B _ _ no7), sok⟩
  · rw [List.mem_singleton] at hcs
    subst hcs
    exact ⟨_, valV_pos rfl⟩
  · obtain ⟨e2', o6, o7, o8, o9, o10, o11, o12, o13, o14, la, ls, CL, kvs, rfl, hfdk, hkl, hTab, hla, hls, hLay, hCL⟩ := h
    obtain ⟨rfl, rfl⟩ := y_rng y
    have hi6 : i < 6 := by
      have : i < M := by simpa using hi
      omega
    have p729 : (nms ds).length ^ (i + 1) ≤ 729 := pow_small (by omega) (by omega)
    walk_at "wp"
    refine e_dnewT fun lt H4 hlt e4 h4 => ?_
    walk_at "wp"
    refine ⟨la, rfl, ⟨_, stL (e4 _ _ hla)⟩, fr_W walk_list (fun j σ H5 => Ex H2 H5 ∧ ∃ (o8 o9 o10 o11 o12 o13 o14 : Option V) (kv2 : List (List Key × V)), σ = [some (.ref t), some (.int (M : Nat)), some (.int (ds.length : Nat)), some (.ref no), some (.ref fd), some (.ref la), some (.int (i : Nat)), some (.ref lt), o8, o9, o10, o11, o12, o13, o14] ∧ LatAt H2 H5 n ds (i + 1) lt kv2 ∧
        ∀ w, w.length = i → Over (nms ds) w → (∃ j', j' < j ∧ CL[j']? = some (cn (nms ds) w)) → ∀ a (h : a < (nms ds).length), HasE H5 kv2 (inc (cn (nms ds) w) a) (cmp (eff n ds w) (dl n ds (nms ds)[a])))
      ⟨e4, _, _, _, _, _, _, _, [], rfl, LatAt.nil hlt h4, fun w _ _ h => by obtain ⟨j', h, _⟩ := h; omega⟩ (fun j σ H5 hj h => stL (h.1 _ _ hla)) (fun j x σ H5z H5 hj h y => ?_) (fun σ H5 h => ?_)⟩
    · obtain ⟨e5, o8, o9, o10, o11, o12, o13, o14, kv2, rfl, hLat, hdone⟩ := h
      obtain ⟨rfl, hx⟩ := y
      obtain ⟨cs, cb, hcs, rfl, hcb0⟩ := hls.get hx
      obtain ⟨w0, hw0, ho0, rfl⟩ := (hLay.iff cs).mp (List.mem_of_getElem? hcs)
      obtain ⟨v0, hv0⟩ := hCL _ (List.mem_of_getElem? hcs)
      obtain ⟨E, pE, es, rfl, hpE, hes, hEok⟩ := hTab.get hv0
      walk_at "wp"
      refine ⟨t, us, rfl, stL (e5 _ _ (e2' _ _ ht)), fr_W walk_enum (fun a σ H6 => Ex H2 H6 ∧ ∃ (o9 o10 o11 o12 o13 o14 : Option V) (kv3 : List (List Key × V)), σ = [some (.ref t), some (.int (M : Nat)), some (.int (ds.length : Nat)), some (.ref no), some (.ref fd), some (.ref la), some (.int (i : Nat)), some (.ref lt), some (.ref cb), o9, o10, o11, o12, o13, o14] ∧ LatAt H2 H6 n ds (i + 1) lt kv3 ∧
          (∀ w, w.length = i → Over (nms ds) w → (∃ j', j' < j ∧ CL[j']? = some (cn (nms ds) w)) → ∀ a (h : a < (nms ds).length), HasE H6 kv3 (inc (cn (nms ds) w) a) (cmp (eff n ds w) (dl n ds (nms ds)[a]))) ∧
          ∀ w, w.length = i → Over (nms ds) w → cn (nms ds) w = cn (nms ds) w0 → ∀ b, b < a → ∀ h : b < (nms ds).length, HasE H6 kv3 (inc (cn (nms ds) w0) b) (cmp (eff n ds w) (dl n ds (nms ds)[b])))
        ⟨e5, _, _, _, _, _, _, kv2, rfl, hLat, hdone, fun w _ _ _ b hb => by omega⟩ (fun a σ H6 ha h => stL (h.1 _ _ (e2' _ _ ht))) (fun a x σ H6 H7 ha h y => ?_) (fun σ H6 h => ?_)⟩
      · obtain ⟨e6, o9, o10, o11, o12, o13, o14, kv3, rfl, hL3, hd3, hd4⟩ := h
        obtain ⟨TT, va, vb, rfl, hva, hvb, hTT, e7⟩ := yp_get y
        cases hva
        have e67 := e6.trans e7
        have had : a < ds.length := by rw [← hul]; exact ha
        have haN : a < (nms ds).length := by rw [hN]; exact had
        obtain ⟨f, q, hf, rfl, hq⟩ := hus.get hvb
        rw [fdx_get had] at hf
        cases hf
        have pf := fdx_pm hg had
        have hcl := cn_len (nms ds) w0
        refine g_two (stT hTT) ?_
        walk_at "wp"
        have hcb7 := e67 _ _ hcb0
        refine ⟨_, rfl, ?_⟩
        refine r_slTake (i := a) (stT hcb7) (by rw [encI_len, hcl]; exact haN) fun p1 H8 e8 h8 => ?_
        walk_at "wp"
        refine r_ixT (n := a) (stT (e8 _ _ hcb7)) (atI_ok (encI_get (by rw [hcl]; exact haN))) ?_
        walk_at "wp"
        refine al (by walk_at "sz") fun p2 H9 hp2 e9 h9 => ?_
        walk_at "wp"
        refine r_catT (stT (e9 _ _ h8)) (stT h9) (small (by rw [List.length_take, encI_len, List.length_singleton]; omega)) (e9 _ _ h8) h9 fun p3 HA eA hA3' => ?_
        walk_at "wp"
        refine ⟨((a + 1 : Nat) : Int), by simp, ?_⟩
        walk_at "wp"
        refine r_slDrop (i := a + 1) (stT (eA _ _ (e9 _ _ (e8 _ _ hcb7)))) (by omega) (by rw [encI_len, hcl]; omega) fun p4 HB eB hB4 => ?_
        walk_at "wp"
        refine r_catT (stT (eB _ _ hA3')) (stT hB4) (small (by rw [List.length_append, List.length_take, List.length_drop, encI_len, List.length_singleton]; omega)) (eB _ _ hA3') hB4 fun fu HC eC hC => ?_
        rw [encI_inc, ← cn_snoc hg.apart haN] at hC
        walk_at "wp"
        have e7C := (((e8.trans e9).trans eA).trans eB).trans eC
        have eHC := e67.trans e7C
        refine e_dset ?_
        walk_at "wp"
        have hL3C := hL3.ex (e7.trans e7C)
        refine ⟨lt, rfl, .inr ⟨_, .inl hL3C.at_⟩, ?_⟩
        walk_at "wp"
        refine e_dnewT fun qn HD hqn eD hqn0 => ?_
        have how : Over (nms ds) (w0 ++ [(nms ds)[a]]) := fun z hz => by
          rcases List.mem_append.mp hz with hz | hz
          · exact ho0 z hz
          · rw [List.mem_singleton] at hz
            subst hz
            exact List.getElem_mem haN
        refine hL3C.dset (w := w0 ++ [(nms ds)[a]]) eHC eD hqn hqn0 (eD _ _ hC) (by rw [List.length_append, hw0]; rfl) how (by have := hL3C.few; omega) fun qk kv4 HE eE hL4 hmem hmono => ?_
        walk_at "wp"
        refine ⟨fd, _, rfl, dget_T (eE _ _ hfdk) (eE _ _ hcb0) hv0, ?_⟩
        refine ⟨pE, rfl, ⟨_, stL (eE _ _ hpE)⟩, fr_W walk_list (fun m σ HF => Ex H2 HF ∧ ∃ (o13 o14 : Option V), σ = [some (.ref t), some (.int (M : Nat)), some (.int (ds.length : Nat)), some (.ref no), some (.ref fd), some (.ref la), some (.int (i : Nat)), some (.ref lt), some (.ref cb), some (.int (a : Nat)), some (.ref q), some (.ref fu), some (.ref qk), o13, o14] ∧ LatAt H2 HF n ds (i + 1) lt kv4 ∧ (∀ cs f, HasE HE kv4 cs f → HasE HF kv4 cs f) ∧
            ∀ (m' : Nat) e, m' < m → E[m']? = some e → HasE HF kv4 (inc (cn (nms ds) w0) a) (cmp e (fdx ds a)))
          ⟨eE, _, _, rfl, hL4, fun _ _ h => h, fun m' e h => by omega⟩ (fun m σ HF hm h => stL (h.1 _ _ hpE)) (fun m x σ HFz HF hm h y => ?_) (fun σ HF h => ?_)⟩
        · obtain ⟨eF, o13, o14, rfl, hL5, hmo, hdo⟩ := h
          obtain ⟨rfl, hx⟩ := y
          obtain ⟨e, qe, hem, rfl, hqe⟩ := (hes.ei eF.ei).get hx
          obtain ⟨u, hu, huc, rfl⟩ := (hEok.iff e).mp (List.mem_of_getElem? hem)
          have pe := eff_pm hA u
          have ul : u.length = i := by rw [(cn_perm hu ho0 huc).length_eq, hw0]
          have hq' := eF _ _ (e2' _ _ hq)
          walk_at "wp"
          refine ⟨qe, rfl, ⟨_, stT hqe⟩, lc_V (encI (cmp (eff n ds u) (fdx ds a))) (wk_tup (stT hqe)) (by rw [encI_len, pe.len]; omega) (by rw [encI_len, encI_len]; unfold cmp; rw [List.length_map]) (fun s x y HG HI hy eI hx R hR => ?_) fun D HI hD eI hDl => ?_⟩
          · obtain ⟨rfl, hx⟩ := hx
            obtain ⟨hs, rfl⟩ := encI_at hx
            obtain ⟨hs2, rfl⟩ := encI_at hy
            refine ⟨rfl, ?_⟩
            walk_at "wp"
            rw [ap_cmp hs] at hR
            refine r_ixT (n := ap (eff n ds u) s) (stT (eI _ _ hq')) (atI_ok (encI_get (by rw [pf.len]; exact pe.ap_lt (by rw [← pe.len]; exact hs)))) ?_
            exact hR _ (Ex.refl _)
          · walk_at "wp"
            refine r_tupE hDl fun tp HJ htp eJ hJ => ?_
            walk_at "wp"
            have eFJ := eI.trans eJ
            have hL6 := hL5.ex eFJ
            obtain ⟨w2, q2, E2, c1, c2, c3, c4, c5, c6, c7, c8, c9⟩ := hL6.ent _ _ hmem
            cases c4
            have hE2 : E2.length ≤ 729 := Nat.le_trans (few_cn (N := nms ds) (L := i + 1) c8 (eff n ds) fun c hc => by
              obtain ⟨u2, b1, b2, _, b4⟩ := c9 c hc
              exact ⟨u2, b1, b2, b4.symm⟩) p729
            have hxa := fdx_eq hg haN
            refine ⟨qk, _, rfl, DPut.t (k := encK (cmp (eff n ds u) (fdx ds a))) c7 (by rw [encK_V]; exact hJ) (smallL (by unfold effK; rw [List.length_map]; omega)), ?_⟩
            have eu : cmp (eff n ds u) (fdx ds a) = eff n ds (u ++ [(nms ds)[a]]) := by rw [eff_append hA, eff_single hA, hxa]
            rw [put_effK, eu]
            have m9 : Mu qk HJ (upd HJ qk (.dT (effK (addE E2 (eff n ds (u ++ [(nms ds)[a]])))))) := Mu.of c7 rfl
            have h9' : (upd HJ qk (.dT (effK (addE E2 (eff n ds (u ++ [(nms ds)[a]])))))) qk = some (.dT (effK (addE E2 (eff n ds (u ++ [(nms ds)[a]]))))) := upd_same
            generalize upd HJ qk (.dT (effK (addE E2 (eff n ds (u ++ [(nms ds)[a]]))))) = HK at m9 h9'
            have hou : Over (nms ds) (u ++ [(nms ds)[a]]) := fun z hz => by
              rcases List.mem_append.mp hz with hz | hz
              · exact hu z hz
              · rw [List.mem_singleton] at hz
                subst hz
                exact List.getElem_mem haN
            obtain ⟨L1, L2', L3⟩ := hL6.add hmem c7 (u := u ++ [(nms ds)[a]]) (by rw [List.length_append, ul]; rfl) hou (by rw [cn_snoc hg.apart haN, cn_snoc hg.apart haN, huc]) m9 h9'
            refine ⟨(eF.trans eFJ).mu m9 c6, _, _, rfl, L1, fun cs f hf => L2' _ _ ((hmo _ _ hf).ex eFJ), fun m' e hm' he => ?_⟩
            by_cases hmm : m' = m
            · subst hmm
              rw [hem] at he
              cases he
              rw [eu, ← cn_snoc hg.apart haN]
              exact L3
            · exact L2' _ _ ((hdo m' e (by omega) he).ex eFJ)
        · obtain ⟨eF, o13, o14, rfl, hL5, hmo, hdo⟩ := h
          refine ⟨eF, _, _, _, _, _, _, kv4, rfl, hL5, fun w h1 h2 h3 b hb => hmo _ _ (hmono _ _ ((hd3 w h1 h2 h3 b hb).ex (e7.trans e7C))), fun w h1 h2 h3 b hb hbN => ?_⟩
          by_cases hba : b = a
          · subst hba
            obtain ⟨m', hm', em⟩ := List.getElem_of_mem ((hEok.iff (eff n ds w)).mpr ⟨w, h2, h3, rfl⟩)
            have := hdo m' (eff n ds w) (by rw [hes.1]; exact hm') (by rw [List.getElem?_eq_getElem hm', em])
            rw [fdx_eq hg haN] at this
            exact this
          · exact hmo _ _ (hmono _ _ ((hd4 w h1 h2 h3 b (by omega) hbN).ex (e7.trans e7C)))
      · obtain ⟨e6, o9, o10, o11, o12, o13, o14, kv3, rfl, hL3, hd3, hd4⟩ := h
        refine ⟨e6, _, _, _, _, _, _, _, kv3, rfl, hL3, fun w h1 h2 h3 a ha => ?_⟩
        obtain ⟨j', hj', hj2⟩ := h3
        by_cases hjj : j' = j
        · subst hjj
          rw [hcs] at hj2
          have e0 := Option.some.inj hj2
          rw [← e0]
          exact hd4 w h1 h2 e0.symm a (by rw [hul, ← hN]; exact ha) ha
        · exact hd3 w h1 h2 ⟨j', by omega, hj2⟩ a ha
    · obtain ⟨e5, o8, o9, o10, o11, o12, o13, o14, kv2, rfl, hLat, hdone⟩ := h
      walk_at "wp"
      obtain ⟨G, hGl, hG⟩ := hLat.list
      have hkeys : kv2.map (·.1) = (G.map (·.1)).map encK := List.ext_getElem? fun x => by
        rw [List.getElem?_map, List.map_map, List.getElem?_map]
        by_cases hx : x < kv2.length
        · have hx2 : x < G.length := by omega
          obtain ⟨w, q, _, _, _, h4, _⟩ := hG x _ _ _ (List.getElem?_eq_getElem hx) (List.getElem?_eq_getElem hx2)
          rw [List.getElem?_eq_getElem hx, List.getElem?_eq_getElem hx2]
          have h4' : kv2[x].1 = encK (G[x].1) := h4
          show some (kv2[x].1) = some (encK (G[x].1))
          rw [h4']
        · rw [List.getElem?_eq_none (by omega), List.getElem?_eq_none (by omega)]
          rfl
      have ndG : (G.map (·.1)).Nodup := nodup_of_map (g := encK) (by rw [← hkeys]; exact hLat.nd)
      have toG : ∀ cs f, HasE H5 kv2 cs f → ∃ p ∈ G, p.1 = cs ∧ f ∈ p.2 := fun cs f h => by
        obtain ⟨q, E, h1, h2, h3⟩ := h
        obtain ⟨x, hx, ex⟩ := List.getElem_of_mem h1
        have hx2 : x < G.length := by omega
        obtain ⟨w, q', _, _, _, h5, h6, _, _, h7, _⟩ := hG x (encK cs) (.ref q) G[x] (by rw [List.getElem?_eq_getElem hx, ex]) (List.getElem?_eq_getElem hx2)
        cases h6
        have e0 : E = G[x].2 := by
          rw [h2] at h7
          injection h7 with h7
          injection h7 with h7
          exact effK_inj h7
        exact ⟨G[x], List.getElem_mem hx2, (encK_inj h5).symm, e0 ▸ h3⟩
      have hGs : ∀ p ∈ G, p.2.Nodup ∧ (∃ w, w.length = i + 1 ∧ Over (nms ds) w ∧ cn (nms ds) w = p.1) ∧ ∀ e ∈ p.2, ∃ w, w.length = i + 1 ∧ Over (nms ds) w ∧ cn (nms ds) w = p.1 ∧ e = eff n ds w := fun p hp => by
        obtain ⟨x, hx, rfl⟩ := List.getElem_of_mem hp
        obtain ⟨w, q, c1, c2, c3, _, _, _, _, _, c8, c9⟩ := hG x _ _ _ (List.getElem?_eq_getElem (show x < kv2.length by omega)) (List.getElem?_eq_getElem hx)
        exact ⟨c8, ⟨w, c1, c2, c3.symm⟩, c9⟩
      obtain ⟨hOK, hLay2⟩ := next_ok hA hg.apart hLay ndG hGs (fun w a ha hw ho => by
        obtain ⟨j', hj', ej⟩ := List.getElem_of_mem ((hLay.iff _).mpr ⟨w, hw, ho, rfl⟩)
        obtain ⟨p, hp, h1, h2⟩ := toG _ _ (hdone w hw ho ⟨j', by rw [hls.1]; exact hj', by rw [List.getElem?_eq_getElem hj', ej]⟩ a ha)
        exact ⟨p, hp, h1, h2⟩)
      have hG729 : G.length ≤ 729 := by
        have := hLat.few
        omega
      refine ⟨lt, kv2, rfl, .inl hLat.at_, fun la2 bs hla2 hk => ?_⟩
      generalize hH6 : upd H5 la2 (.lst (bs.map V.ref)) = H6
      have e6 : Ex H5 H6 := by rw [← hH6]; exact Ex.new hla2
      have l6 : H6 la2 = some (.lst (bs.map V.ref)) := by rw [← hH6]; exact upd_same
      clear hH6
      have hbl : bs.length = G.length := by rw [← hk.length, hGl]
      have hfd6 := e6 _ _ (e5 _ _ hfdk)
      have fdlt : lt ≠ fd := Ne.symm (ne_of_none hfdk hlt)
      have ne6 : ∀ {b o}, H6 b = some o → (∀ k, o ≠ .dT k) → b ≠ fd := fun h hno => ne_obj h hfd6 (hno _)
      walk_at "wp"
      refine ⟨la2, rfl, ⟨_, stL l6⟩, fr_W walk_list (fun j σ H7 => (∀ b o, b ≠ fd → H6 b = some o → H7 b = some o) ∧ ∃ (o8 o9 o10 o11 o12 o13 o14 : Option V) (kvs4 : List (List Key × V)), σ = [some (.ref t), some (.int (M : Nat)), some (.int (ds.length : Nat)), some (.ref no), some (.ref fd), some (.ref la2), some (.int (i : Nat)), some (.ref lt), o8, o9, o10, o11, o12, o13, o14] ∧ H7 fd = some (.dT kvs4) ∧ kvs4.length ≤ 1 + 729 * i + j ∧ EndTab H7 n ds kvs4 ∧
          ∀ (j' : Nat) p, (j' < j ∧ G[j']? = some p) ∨ p.1 ∈ CL → ∃ v, valV kvs4 (encK p.1) = some v)
        ⟨fun _ _ _ h => h, _, _, _, _, _, _, _, kvs, rfl, hfd6, by omega, hTab.keep fun b o h _ => e6 _ _ (e5 _ _ h), fun j' p h => by
          rcases h with h | h
          · omega
          · exact hCL _ h⟩ (fun j σ H7 hj h => stL (h.1 _ _ (ne6 l6 fun _ e => nomatch e) l6)) (fun j x σ H7z H7 hj h y => ?_) (fun σ H7 h => ?_)⟩
      · obtain ⟨hX, o8, o9, o10, o11, o12, o13, o14, kvs4, rfl, hfd7, hkl7, hTab7, hin7⟩ := h
        obtain ⟨rfl, hx⟩ := y
        obtain ⟨b, hb, rfl⟩ : ∃ b, bs[j]? = some b ∧ x = .ref b := by
          rw [List.getElem?_map, Option.map_eq_some_iff] at hx
          obtain ⟨b, h1, h2⟩ := hx
          exact ⟨b, h1, h2.symm⟩
        have hj2 : j < G.length := by
          have := (List.getElem?_eq_some_iff.mp hb).1
          omega
        obtain ⟨kp, hkp, hbt⟩ := paired_at hk hb
        obtain ⟨w, q, hw, ho, hp1, hk1, hv1, hqlt, hq0, hqE, hnd, hsub⟩ := hG j kp.1 kp.2 _ hkp (List.getElem?_eq_getElem hj2)
        rw [hk1, encK_V] at hbt
        have hb6 := e6 _ _ hbt
        have hb7 := hX b _ (ne6 hb6 fun _ e => nomatch e) hb6
        have hq7 := hX q _ (Ne.symm (ne_of_none hfdk hq0)) (e6 _ _ hqE)
        have hmem2 : (encK (G[j].1), V.ref q) ∈ kv2 := by
          have := List.mem_of_getElem? hkp
          rw [← hk1, ← hv1]
          exact this
        walk_at "wp"
        refine ⟨lt, V.ref q, rfl, dget_T (hX lt _ fdlt (e6 _ _ hLat.at_)) hb7 (valV_nodup hLat.nd hmem2), ?_⟩
        refine ⟨q, effK (G[j].2), rfl, .inl hq7, fun p5 bs5 hp5 hk5 => ?_⟩
        generalize hH8 : upd H7 p5 (.lst (bs5.map V.ref)) = H8
        have e8 : Ex H7 H8 := by rw [← hH8]; exact Ex.new hp5
        have l8 : H8 p5 = some (.lst (bs5.map V.ref)) := by rw [← hH8]; exact upd_same
        clear hH8
        walk_at "wp"
        have hfd8 := e8 _ _ hfd7
        refine ⟨fd, _, rfl, DPut.t (k := encK (G[j].1)) hfd8 (by rw [encK_V]; exact e8 _ _ hb7) (smallL (by omega)), ?_⟩
        generalize hH9 : upd H8 fd (.dT (putK kvs4 (encK (G[j].1)) (V.ref p5))) = H9
        have m9 : Mu fd H8 H9 := by rw [← hH9]; exact Mu.of hfd8 rfl
        have fd9 : H9 fd = some (.dT (putK kvs4 (encK (G[j].1)) (V.ref p5))) := by rw [← hH9]; exact upd_same
        clear hH9
        have keep79 : ∀ b o, H7 b = some o → (∀ k, o ≠ .dT k) → H9 b = some o := fun b o h hno => m9.rest b o (ne_obj (e8 _ _ h) hfd8 (hno _)) (e8 _ _ h)
        have hput := length_putK kvs4 (encK (G[j].1)) (V.ref p5)
        have tab9 := hTab7.keep keep79
        refine ⟨fun b o hbf h => m9.rest b o hbf (e8 _ _ (hX b o hbf h)), _, _, _, _, _, _, _, _, rfl, fd9, by omega, fun k0 v0 hkv => ?_, fun j' p hjp => ?_⟩
        · rcases mem_putK hkv with hkv | hkv
          · exact tab9 k0 v0 hkv
          · cases hkv
            have hl5 : bs5.length = (G[j].2).length := by
              rw [← hk5.length]
              unfold effK
              rw [List.length_map]
            refine ⟨G[j].1, G[j].2, p5, bs5.map V.ref, rfl, rfl, m9.rest _ _ (ne_obj l8 hfd8 fun e => nomatch e) l8, ⟨by rw [List.length_map, hl5], fun x f hxf => ?_⟩, hOK _ (List.getElem_mem hj2)⟩
            have hx5 : x < bs5.length := by
              have := (List.getElem?_eq_some_iff.mp hxf).1
              omega
            obtain ⟨kp5, hkp5, hb5⟩ := paired_at hk5 (List.getElem?_eq_getElem hx5)
            unfold effK at hkp5
            rw [List.getElem?_map, hxf] at hkp5
            cases hkp5
            rw [encK_V] at hb5
            exact ⟨bs5[x], by rw [List.getElem?_map, List.getElem?_eq_getElem hx5]; rfl, keep79 _ _ hb5 fun _ e => nomatch e⟩
        · rw [valV_put]
          by_cases hpk : encK p.1 = encK (G[j].1)
          · rw [if_pos hpk]
            exact ⟨_, rfl⟩
          · rw [if_neg hpk]
            refine hin7 j' p ?_
            rcases hjp with ⟨h1, h2⟩ | h
            · refine .inl ⟨?_, h2⟩
              by_cases hjj : j' = j
              · subst hjj
                rw [List.getElem?_eq_getElem hj2] at h2
                cases h2
                exact absurd rfl hpk
              · omega
            · exact .inr h
      · obtain ⟨hX, o8, o9, o10, o11, o12, o13, o14, kvs4, rfl, hfd7, hkl7, hTab7, hin7⟩ := h
        rw [List.length_map] at hkl7 hin7
        refine ⟨fun b o h => hX b o (ne_of_none h hfdH) (e6 _ _ (e5 _ _ (e2' _ _ h))), _, _, _, _, _, _, _, _, _, la2, bs.map V.ref, G.map (·.1), kvs4, rfl, hfd7, by omega, hTab7, hX _ _ (ne6 l6 fun _ e => nomatch e) l6, ⟨by rw [List.length_map, List.length_map, hbl], fun x f hxf => ?_⟩, hLay2, fun cs hcs => ?_⟩
        · have hx2 : x < G.length := by
            have := (List.getElem?_eq_some_iff.mp hxf).1
            rw [List.length_map] at this
            exact this
          have hx5 : x < bs.length := by omega
          obtain ⟨kp, hkp, hbt⟩ := paired_at hk (List.getElem?_eq_getElem hx5)
          obtain ⟨w, q, _, _, _, hk1, _⟩ := hG x kp.1 kp.2 _ hkp (List.getElem?_eq_getElem hx2)
          rw [List.getElem?_map, List.getElem?_eq_getElem hx2] at hxf
          cases hxf
          rw [hk1, encK_V] at hbt
          have hb6 := e6 _ _ hbt
          exact ⟨bs[x], by rw [List.getElem?_map, List.getElem?_eq_getElem hx5]; rfl, hX _ _ (ne6 hb6 fun _ e => nomatch e) hb6⟩
        · obtain ⟨p, hp, rfl⟩ := List.mem_map.mp hcs
          obtain ⟨x, hx, ex⟩ := List.getElem_of_mem hp
          exact hin7 x p (.inl ⟨by omega, by rw [List.getElem?_eq_getElem hx, ex]⟩)
  · obtain ⟨e2', o6, o7, o8, o9, o10, o11, o12, o13, o14, la, ls, CL, kvs, rfl, hfdk, hkl, hTab, hla, hls, hLay, hCL⟩ := h
    walk_at "wp"
    exact k fd kvs H2 e2' hfdk hTab

end
end Eo
namespace Eo
open PySem PyProof.Rows L2 L2.DX
/-! words of the walk: wp goes on where nothing is open; hl looks an object up; ex: what stood stands -/
local macro_rules | `(tactic| walk_at "hl") => `(tactic| first | assumption | exact PlT.sq (by assumption) | (refine stT ?_; walk_at "hl") | (refine stL ?_; walk_at "hl") | (refine Ex.at (by assumption) ?_; walk_at "hl") | (refine Mu.tup (by assumption) ?_; walk_at "hl") | (refine Ex.sqT (by assumption) ?_; walk_at "hl") | (refine Ex.sqL (by assumption) ?_; walk_at "hl") | (refine Ex.plT (by assumption) ?_; walk_at "hl") | (refine Mu.plT (by assumption) ?_; walk_at "hl"))
local macro_rules | `(tactic| walk_at "ex") => `(tactic| first | assumption | exact Ex.refl _ | (refine Ex.trans ?_ (by assumption); walk_at "ex") | (refine Ex.mu ?_ (by assumption) (by first | assumption | walk_at "fr"); walk_at "ex"))
local macro_rules | `(tactic| walk_at "fr") => `(tactic| first | assumption | (refine Ex.free (by assumption) ?_; walk_at "fr"))
local macro_rules | `(tactic| walk_at "rf") => `(tactic| with_unfolding_all rfl)
local macro_rules | `(tactic| walk_at "wp") => `(tactic| repeat (with_reducible first
  | refine q_seq ?_ | refine q_asg ?_ | refine q_ret ?_ | refine q_drop ?_ | refine q_if ?_ | refine q_next ?_ | refine q_par ?_ | refine q_par3 ?_ | refine q_retN ?_ | refine q_cont ?_ | refine q_brk ?_
  | refine e_var (by with_unfolding_all rfl) ?_ | refine e_c ?_ | refine e_op ?_ | refine e_cons ?_ | refine e_nil ?_ | refine e_test ?_ | refine e_B ?_ | refine e_yes ?_ | refine e_cb ?_ | refine e_call ?_ | refine e_then ?_ | refine e_tup ?_ | refine e_lst ?_
  | refine x_bl ?_ | refine i_T ?_ | refine i_F ?_ | refine x_two ?_ | refine x_three ?_
  | refine r_I0 ?_ | refine r_add ?_ | refine r_ip ?_ | refine g_nm ?_ | refine r_eqI ?_ | refine r_neI ?_ | refine r_eq (by with_unfolding_all rfl) ?_ | refine r_ne (by with_unfolding_all rfl) ?_
  | refine e_not ?_ | refine e_and ?_ | refine e_or ?_ | refine e_andV ?_ | refine e_orV ?_ | refine e_notV ?_ | refine e_ifx ?_ | refine e_idxF ?_ | refine e_idxI ?_ | refine e_sl ?_ | refine e_part ?_ | refine e_nopart ?_ | refine f_revA ?_ | refine e_lenSet ?_ | refine l_dcT ?_ | refine e_sadd ?_ | refine q_asgS ?_ | refine q_augS ?_ | refine e_tupRg ?_ | refine e_lstRg ?_ | refine e_rg1 ?_ | refine e_rg2 ?_ | refine e_dget ?_ | refine e_din ?_ | refine e_dnotin ?_ | refine e_dget2 ?_ | refine q_dput ?_ | refine e_un ?_ | refine e_chain ?_ | refine e_bm ?_ | refine e_bm0 ?_ | refine e_fld ?_ | refine q_asgT ?_
  | refine l_any ?_ | refine l_tup ?_ | refine l_list ?_ | refine l_rng1 ?_ | refine l_rng2 ?_ | refine l_str ?_ | refine l_enumL ?_ | refine l_enumT ?_ | refine l_zip ?_ | refine l_zipM ?_
  | refine f_tup ?_ | refine f_list ?_ | refine f_rng1 ?_ | refine f_enumL ?_ | refine f_enumT ?_))
local macro_rules | `(tactic| walk_at "sz") => `(tactic| first | decide | (refine small ?_; simp; done) | (refine small ?_; simp; omega) | (refine smallL ?_; simp; done) | (refine smallL ?_; simp; omega) | (simp; done) | (simp; omega))
section
variable {P : Program} {w : World} {K : PySem.W.Frag} {mg : Str → Option Value} {base : Heap} {C : Addr} {A : Nat → Addr} {FD : Nat → FuncData}
theorem gen {α : Type} {F : α → Prop} {x : α} {P : α → Prop} (h : ∀ R, P R → F R) (k : P x) : F x := h x k
theorem ov_free {C a : Addr} {H : Hp} {Q : VK} {E : XK} {n : Nat} {ds : Ds} (hm : Mac C H a n ds) (hg : Good n ds) (hF : Free n ds) (k : ∀ p x y H', Ex H H' → H' p = some (.tup [.str "orderly", x, y]) → Q (.ref p) H') : sp_order_verdict C [.ref a] H Q E :=
  ⟨a, n, ds, rfl, hm, hg, fun p x y H' e hp _ => k p x y H' e hp, fun p r1 r2 r t i j H' e hp h1 h2 hc _ _ _ _ _ hi hj he hne => (hF.no hc hi he hne).elim⟩
/-- pairs of a name and a tuple, apart from a list -/
def PrsD (H : Hp) (D : Addr) (vs : List V) (es : Ds) : Prop := vs.length = es.length ∧ ∀ (i : Nat) (x : Str) (f : List Nat), es[i]? = some (x, f) → ∃ p q, vs[i]? = some (.ref p) ∧ H p = some (.tup [.str x, .ref q]) ∧ H q = some (.tup (encI f)) ∧ p ≠ D ∧ q ≠ D
theorem PrsD.keep {H H' : Hp} {D : Addr} {vs : List V} {es : Ds} (h : PrsD H D vs es) (e : ∀ b o, b ≠ D → H b = some o → H' b = some o) : PrsD H' D vs es := ⟨h.1, fun i x f hi => let ⟨p, q, h1, h2, h3, h4, h5⟩ := h.2 i x f hi; ⟨p, q, h1, e _ _ h4 h2, e _ _ h5 h3, h4, h5⟩⟩
theorem PrsD.ei {H H' : Hp} {D : Addr} {vs : List V} {es : Ds} (h : PrsD H D vs es) (e : EI H H') : PrsD H' D vs es := ⟨h.1, fun i x f hi => let ⟨p, q, h1, h2, h3, h4, h5⟩ := h.2 i x f hi; ⟨p, q, h1, e.tup h2, e.tup h3, h4, h5⟩⟩
theorem PrsD.snoc {H : Hp} {D p q : Addr} {vs : List V} {es : Ds} {x : Str} {f : List Nat} (h : PrsD H D vs es) (h1 : H p = some (.tup [.str x, .ref q])) (h2 : H q = some (.tup (encI f))) (h3 : p ≠ D) (h4 : q ≠ D) : PrsD H D (vs ++ [.ref p]) (es ++ [(x, f)]) := by
  refine ⟨by rw [List.length_append, List.length_append, h.1]; rfl, fun i y g hi => ?_⟩
  rcases snoc_get hi with ⟨hl, hi⟩ | ⟨rfl, e⟩
  · obtain ⟨p', q', g1, g2⟩ := h.2 i y g hi
    exact ⟨p', q', by rw [List.getElem?_append_left (by rw [h.1]; exact hl)]; exact g1, g2⟩
  · cases e
    exact ⟨p, q, by rw [← h.1]; exact snoc_last _ _, h1, h2, h3, h4⟩
theorem PrsD.ind {H : Hp} {D : Addr} {vs : List V} {es : Ds} (h : PrsD H D vs es) : InDeeds H vs es := ⟨h.1, fun i x f hi => let ⟨p, q, h1, h2, h3, _⟩ := h.2 i x f hi; ⟨p, q, h1, h2, .inr h3⟩⟩
def bes : Str := "beside"
theorem bes_name : isName bes := by unfold isName; decide +kernel
theorem lookup_mapN {F : Str → List Nat} : ∀ (l : List Str) (x : Str), (l.map fun y => (y, F y)).lookup x = if x ∈ l then some (F x) else none
  | [], x => rfl
  | y :: l, x => by
    rw [List.map_cons, List.lookup_cons, lookup_mapN l x]
    by_cases e : x = y
    · subst e
      simp
    · have : (x == y) = false := by simpa using e
      rw [this]
      simp [e]
theorem side_idn (n m : Nat) : side (idn n) (idn m) = idn (n * m) := by
  refine ext_ap (n := n * m) (by rw [side_len, idn_len, idn_len]) (idn_len _) fun s hs => ?_
  obtain ⟨x, y, hx, hy, rfl⟩ := split_num hs
  rw [ap_idn hs]
  have h := ap_side (f := idn n) (g := idn m) (x := x) (y := y) (by rw [idn_len]; exact hx) (by rw [idn_len]; exact hy)
  rw [idn_len, ap_idn hx, ap_idn hy] at h
  exact h
theorem dl_out {n : Nat} {ds : Ds} {x : Str} (h : x ∉ nms ds) : dl n ds x = idn n := by
  unfold dl
  have : ds.lookup x = none := by
    rw [List.lookup_eq_none_iff]
    intro p hp
    by_cases e : x = p.1
    · subst e
      exact absurd (List.mem_map.mpr ⟨p, hp, rfl⟩) h
    · simpa using e
  rw [this]
theorem side_dl {n m : Nat} {ds es : Ds} (x : Str) : dl (n * m) (sideD n m ds es) x = side (dl n ds x) (dl m es x) := by
  have h1 : dl (n * m) (sideD n m ds es) x = if x ∈ sideN ds es then side (dl n ds x) (dl m es x) else idn (n * m) := by
    unfold dl sideD
    rw [lookup_mapN]
    by_cases h : x ∈ sideN ds es
    · rw [if_pos h, if_pos h]
      rfl
    · rw [if_neg h, if_neg h]
  rw [h1]
  by_cases h : x ∈ sideN ds es
  · rw [if_pos h]
  · rw [if_neg h]
    unfold sideN at h
    have hd : x ∉ nms ds := fun q => h (List.mem_append_left _ q)
    have he : x ∉ nms es := fun q => h (List.mem_append_right _ (List.mem_filter.mpr ⟨q, by simpa using hd⟩))
    rw [dl_out hd, dl_out he, side_idn]
def sp_L_beside_right (C0 : Addr) : Sp := fun vs H Q _ => ∃ (l c b m : Addr) (n : Nat) (ds : Ds) (us : List V), vs = [.ref l, .ref b, .ref m] ∧ DealAt H l c ∧ H b = some (.lst us) ∧ b ≠ l ∧ b ≠ c ∧ DeedsAt H us ds ∧ Mac C0 H m n ds ∧ Good n ds ∧ Free n ds ∧ ds.length ≤ 3 ∧ (∀ p ∈ ds, p.1.length ≠ 6) ∧ ∀ H', Q (.bl true) H'
theorem ok_L_beside_right (T : Tx K mg C A FD) : (FnOk P w K mg base CX0 12 (A 65) (FD 65) ["_law_deal_here", "_law_deeds_here", "_law_machine"] (sp_L_beside_right C)) := by
  refine T.d_L_beside_right.F.ok sc_L_beside_right (fun vs H Q E h => by obtain ⟨l, c, b, m, n, ds, us, rfl, hd, hb, b1, b2, hus, hm, hg, hF, h3, h6, k⟩ := h; rfl) (fun cdv A0 outer s H vs Q E hr h => ?_)
  obtain ⟨l, c, b, m, n, ds, us, rfl, hd, hb, b1, b2, hus, hm, hg, hF, h3, h6, k⟩ := h
  have hu := hu_of hr
  have hu64 := hr.units
  have hu2 : _ + 65 < cLine := (fun {A : Around} {k} (hr : Room k A) => (by have := hr.un; omega : A.units + 65 < cLine)) hr
  refine ⟨_, (pss_cons (ps_setLc (i := 3) rfl sc_L_beside_right.nd rfl rfl (sw_true rfl rfl rfl (by decide +kernel)) (kpi_list K (pv 1)) (blkOk_by (own := [("_law_name", 8), ("_law_images", 9)]) (N := N_L_beside_right) (sc := defScope s_L_beside_right) (by decide +kernel)) (fun _ _ _ _ _ => (kpg_tup K (n := 2) (by rfl) (pgs_cons (pg_name (i := 8) sc_L_beside_right.nd rfl (by first | exact .inl rfl | exact .inr rfl)) (pgs_cons (pg_name (i := 9) sc_L_beside_right.nd rfl (by first | exact .inl rfl | exact .inr rfl)) pgs_nil)))) (fun _ _ _ _ _ => pts_nil) (fun _ _ _ _ _ => (pv 8)))
    (pss_cons (ps_set (i := 4) sc_L_beside_right.nd rfl (.inl rfl) (pe_op op_cat (pe_lc rfl sc_L_beside_right.nd (kpi_list K (pv 3)) (blkOk_by (own := [("_law_name", 8)]) (N := N_L_beside_right) (sc := defScope s_L_beside_right) (by decide +kernel)) (fun _ _ _ _ _ => (pg_name (i := 8) sc_L_beside_right.nd rfl (by first | exact .inl rfl | exact .inr rfl))) (fun _ _ _ _ _ => (pts_one (pt_cmpR op_eq (pe_call (ok_L_any T) (hr.mono (by decide)) (by rfl) T.d_L_any.g T.d_L_any.F.kp T.d_L_any.b .nil pass0 (pa_cons (pv 0) (pa_cons pe_int pa_nil))) pe_int (nomark _)))) (fun _ _ _ _ _ => (pv 8))) (pe_lst (pa_cons (pe_call (ok_L_ofL T) (hr.mono (by decide)) (by rfl) T.d_L_of.g T.d_L_of.F.kp T.d_L_of.b .nil pass0 (pa_cons (pv 0) (pa_cons (pv 3) pa_nil))) pa_nil))))
    (pss_cons (ps_if (pt_cmpR op_ne (pe_ix (kix_tup K) (pe_call (ok_order_verdict T) (hr.mono (by decide)) (by rfl) T.d_order_verdict.g T.d_order_verdict.F.kp T.d_order_verdict.b .nil pass0 (pa_cons (pe_call (ok_fewer_deeds T) (hr.mono (by decide)) (by rfl) T.d_fewer_deeds.g T.d_fewer_deeds.F.kp T.d_fewer_deeds.b .nil pass0 (pa_cons (pv 2) (pa_cons (pv 4) pa_nil))) pa_nil)) pe_int (fun _ _ => rfl)) pe_str (nomark _)) (pss_one (ps_ret pe_bl)) pss_nil)
    (pss_cons (ps_set (i := 5) sc_L_beside_right.nd rfl (.inl rfl) (pe_call (ok_L_shut T) (hr.mono (by decide)) (by rfl) T.d_L_shut.g T.d_L_shut.F.kp T.d_L_shut.b .nil pass0 (pa_cons (pe_lc rfl sc_L_beside_right.nd (kpi_list K (pv 1)) (blkOk_by (own := [("_law_name", 8), ("_law_images", 9)]) (N := N_L_beside_right) (sc := defScope s_L_beside_right) (by decide +kernel)) (fun _ _ _ _ _ => (kpg_tup K (n := 2) (by rfl) (pgs_cons (pg_name (i := 8) sc_L_beside_right.nd rfl (by first | exact .inl rfl | exact .inr rfl)) (pgs_cons (pg_name (i := 9) sc_L_beside_right.nd rfl (by first | exact .inl rfl | exact .inr rfl)) pgs_nil)))) (fun _ _ _ _ _ => pts_nil) (fun _ _ _ _ _ => (pv 9))) (pa_cons (pe_call (ok_L_any T) (hr.mono (by decide)) (by rfl) T.d_L_any.g T.d_L_any.F.kp T.d_L_any.b .nil pass0 (pa_cons (pv 0) (pa_cons (pe_callB (kcall_len K) (by rfl) T.z_len (by decide +kernel) (pa_cons (pe_ix (kix_tup K) (pe_ix (kix_list K) (pv 1) pe_int (fun _ _ => rfl)) pe_int (fun _ _ => rfl)) pa_nil)) pa_nil))) pa_nil))))
    (pss_cons (ps_if (PW.pt (pw_and (pt_cmpR op_gt (pe_callB (kcall_len K) (by rfl) T.z_len (by decide +kernel) (pa_cons (pv 5) pa_nil)) pe_int (nomark _)) (pw_and1 (pt_cmpR op_ne (pe_ix (kix_tup K) (pe_call (ok_order_verdict T) (hr.mono (by decide)) (by rfl) T.d_order_verdict.g T.d_order_verdict.F.kp T.d_order_verdict.b .nil pass0 (pa_cons (pe_call (ok_shut_machine T) (hr.mono (by decide)) (by rfl) T.d_shut_machine.g T.d_shut_machine.F.kp T.d_shut_machine.b .nil pass0 (pa_cons (pv 2) (pa_cons (pv 5) pa_nil))) pa_nil)) pe_int (fun _ _ => rfl)) pe_str (nomark _))))) (pss_one (ps_ret pe_bl)) pss_nil)
    (pss_cons (ps_if (pt_cmpR op_gt (pe_callB (kcall_len K) (by rfl) T.z_len (by decide +kernel) (pa_cons (pe_ix (kix_tup K) (pe_ix (kix_list K) (pv 1) pe_int (fun _ _ => rfl)) pe_int (fun _ _ => rfl)) pa_nil)) pe_int (nomark _)) (pss_one (ps_ret pe_bl)) pss_nil)
    (pss_cons (ps_setLc (i := 6) rfl sc_L_beside_right.nd rfl rfl (sw_true rfl rfl rfl (by decide +kernel)) (kpi_list K (pe_lst (pa_cons (pe_ix (kix_list K) (pv 3) pe_int (fun _ _ => rfl)) (pa_cons pe_str pa_nil)))) (blkOk_by (own := [("_law_name", 8)]) (N := N_L_beside_right) (sc := defScope s_L_beside_right) (by decide +kernel)) (fun _ _ _ _ _ => (pg_name (i := 8) sc_L_beside_right.nd rfl (by first | exact .inl rfl | exact .inr rfl))) (fun _ _ _ _ _ => pts_nil) (fun _ _ _ _ _ => (pe_tup (pa_cons (pv 8) (pa_cons (pe_call (ok_L_ofL T) (hr.mono (by decide)) (by rfl) T.d_L_of.g T.d_L_of.F.kp T.d_L_of.b .nil pass0 (pa_cons (pv 0) (pa_cons (pe_lst (pa_cons (pe_tup (pa_cons pe_int (pa_cons pe_int (pa_cons pe_int pa_nil)))) (pa_cons (pe_tup (pa_cons pe_int (pa_cons pe_int (pa_cons pe_int pa_nil)))) (pa_cons (pe_tup (pa_cons pe_int (pa_cons pe_int (pa_cons pe_int pa_nil)))) (pa_cons (pe_tup (pa_cons pe_int (pa_cons pe_int (pa_cons pe_int pa_nil)))) pa_nil))))) pa_nil))) pa_nil)))))
    (pss_cons (ps_set (i := 7) sc_L_beside_right.nd rfl (.inl rfl) (pe_call (ok_L_ofL T) (hr.mono (by decide)) (by rfl) T.d_L_of.g T.d_L_of.F.kp T.d_L_of.b .nil pass0 (pa_cons (pv 0) (pa_cons (pe_lst (pa_cons (pe_tup (pa_cons (pv 2) (pa_cons (pe_make T.mkC (ok_Machine_init T) (hr.mono (by decide)) (by rfl) T.gC T.d_Machine_init.b .nil pass0 (pa_cons (pv 6) pa_nil)) pa_nil))) (pa_cons (pe_tup (pa_cons (pe_make T.mkC (ok_Machine_init T) (hr.mono (by decide)) (by rfl) T.gC T.d_Machine_init.b .nil pass0 (pa_cons (pv 6) pa_nil)) (pa_cons (pv 2) pa_nil))) pa_nil))) pa_nil))))
    (pss_one (ps_ret (pe_cmpR op_eq (pe_ix (kix_tup K) (pe_call (ok_order_verdict T) (hr.mono (by decide)) (by rfl) T.d_order_verdict.g T.d_order_verdict.F.kp T.d_order_verdict.b .nil pass0 (pa_cons (pe_call (ok_side_machine T) (hr.mono (by decide)) (by rfl) T.d_side_machine.g T.d_side_machine.F.kp T.d_side_machine.b .nil pass0 (pa_cons (pe_ix (kix_tup K) (pv 7) pe_int (fun _ _ => rfl)) (pa_cons (pe_ix (kix_tup K) (pv 7) pe_int (fun _ _ => rfl)) pa_nil))) pa_nil)) pe_int (fun _ _ => rfl)) pe_str (nomark _)))))))))))), ?_⟩
  clear hu hu64 hu2
  walk_at "wp"
  have hA := hg.perm
  have two := hg.two
  have few := hg.few
  have eight := hg.eight
  have hN : (nms ds).length = ds.length := by simp
  refine ⟨b, rfl, ⟨_, stL hb⟩, lc_V ((nms ds).map V.str) (wk_list (stL hb)) (by rw [hus.1]; omega) (by rw [List.length_map, List.length_map, hus.1]) (fun i y z H2 H3 hz e hy R hR => ?_) fun D H1 hD e1 hDl => ?_⟩
  · obtain ⟨rfl, hy⟩ := hy
    obtain ⟨x', f', p, q', hi, rfl, hp, _⟩ := (hus.ei e.ei).get hy
    refine g_two (stT hp) ?_
    refine ⟨rfl, ?_⟩
    walk_at "wp"
    rw [List.getElem?_map, List.getElem?_map, hi] at hz
    cases hz
    exact hR _ (Ex.refl _)
  walk_at "wp"
  have d1 := hd.ex' e1
  obtain ⟨n1, n2⟩ := hd.new hD
  have hus1 := hus.ei e1.ei
  have hm1 := hm.ex' e1
  refine ⟨D, rfl, ⟨_, stL hDl⟩, lc_D d1 (fun D2 i acc H' => ∃ S : List Str, acc = S.map V.str ∧ ∀ x ∈ S, x ∈ nms ds) walk_list (fun H' x' _ => stL (x'.lst hDl n1 n2)) (fun i H1 x H2 y => by rw [y.1]; exact Ex.refl _) (by rw [List.length_map, hN]; omega) (fun _ _ _ _ => ⟨[], rfl, fun x h => nm0 h⟩) (fun _ _ _ _ _ _ h => h) (fun D2 i acc x H4 H5 hi x5 d5 p1 p2 hD2l hI y R NN hR hNN => ?_) fun D2 acc H2 hD2 p1 p2 x2 d2 hD2l hal hI => ?_⟩
  · obtain ⟨S, rfl, hS⟩ := hI
    obtain ⟨rfl, hx⟩ := y
    rw [List.getElem?_map, Option.map_eq_some_iff] at hx
    obtain ⟨z, hz, rfl⟩ := hx
    refine ⟨rfl, ?_⟩
    walk_at "wp"
    refine ⟨l, c, 2, rfl, d5, by decide, by decide, fun v H6 hv x6 d6 => ?_⟩
    walk_at "wp"
    refine i_d (fun h => ?_) (fun h => ?_)
    · walk_at "wp"
      refine hR _ H6 x6 d6 ⟨S ++ [z], by rw [List.map_append]; rfl, fun x hx => ?_⟩
      rcases List.mem_append.mp hx with hx | hx
      · exact hS x hx
      · rw [List.mem_singleton] at hx
        subst hx
        exact List.mem_of_getElem? hz
    · exact hNN H6 x6 d6 ⟨S, rfl, hS⟩
  obtain ⟨S, rfl, hS⟩ := hI
  have hSl : S.length ≤ 8 := by
    rw [List.length_map, List.length_map, hN] at hal
    omega
  walk_at "wp"
  have hDl2 := x2.lst hDl n1 n2
  refine ⟨l, c, D, _, rfl, d2, hDl2, n1, n2, by rw [List.length_map, hN]; exact hg.has, by rw [List.length_map, hN]; omega, fun r v H3 hv x3 d3 => ?_⟩
  rw [List.getElem?_map, Option.map_eq_some_iff] at hv
  obtain ⟨z, hz, rfl⟩ := hv
  walk_at "wp"
  refine al (by walk_at "sz") fun D3 H4 hD3 e4 h4 => ?_
  walk_at "wp"
  have hS3 := e4 _ _ (x3.lst hD2l p1 p2)
  refine r_cat hS3 h4 (small (by rw [List.length_map, List.length_singleton]; omega)) fun so H5 hso e5 h5 => ?_
  rw [show S.map V.str ++ [V.str z] = (S ++ [z]).map V.str by rw [List.map_append]; rfl] at h5
  walk_at "wp"
  have x15 : Xd l c H1 H5 := x2.trans (x3.trans ((Xd.of d3 e4).trans (Xd.of (d3.ex' e4) e5)))
  have d5 := (d3.ex' e4).ex' e5
  have hm5 := x15.mac hm1
  refine ⟨m, so, n, ds, S ++ [z], rfl, hm5, hg, h5, by simp, fun x hx => ?_, fun mf H6 e6 hmf hgf => ?_⟩
  · rcases List.mem_append.mp hx with hx | hx
    · exact hS x hx
    · rw [List.mem_singleton] at hx
      subst hx
      exact List.mem_of_getElem? hz
  walk_at "wp"
  refine ov_free hmf hgf (Free.fewer hA hF fun x => decide (x ∈ S ++ [z])) fun p x y H7 e7 hp => ?_
  walk_at "wp"
  refine r_ixT (n := 0) (stT hp) rfl ?_
  walk_at "wp"
  refine i_nF rfl ?_
  walk_at "wp"
  have e57 := e6.trans e7
  have d7 := d5.ex' e57
  have x17 := x15.trans (Xd.of d5 e57)
  have hb7 : H7 b = some (.lst us) := x17.lst (e1 _ _ hb) b1 b2
  have hus7 : DeedsAt H7 us ds := hus1.ei x17.ei
  have hm7 := x17.mac hm1
  refine ⟨b, rfl, ⟨_, stL hb7⟩, lc_I (fun i acc H' => TupsAt H' acc ((ds.map (fun p : Str × List Nat => p.2)).take i)) (wk_list (stL hb7)) (by rw [hus.1]; omega) (fun _ _ => TupsAt.nil _) (fun _ _ _ _ e h => h.ei e) (fun i acc x H8 H9 hi e9 hI y R NN hR hNN => ?_) fun D4 acc H8 hD4 e8 hD4l hal4 hI => ?_⟩
  · obtain ⟨rfl, hx⟩ := y
    obtain ⟨x', f', p', q', hi', rfl, hp', hq'⟩ := (hus7.ei e9.ei).get hx
    refine g_two (stT hp') ?_
    refine ⟨rfl, ?_⟩
    walk_at "wp"
    refine hR _ _ (Ex.refl _) ?_
    rw [List.take_succ, List.getElem?_map, hi']
    exact hI.snoc hq'
  have hul : us.length = (ds.map (·.2)).length := by rw [hus.1, List.length_map]
  rw [hul, List.take_length] at hI
  walk_at "wp"
  obtain ⟨⟨x0, f0⟩, hds0⟩ : ∃ p, ds[0]? = some p := ⟨_, List.getElem?_eq_getElem hg.has⟩
  have pf0 := hA _ (List.mem_of_getElem? hds0)
  have d8 := d7.ex' e8
  have x78 := Xd.of d7 e8
  obtain ⟨pa, qa, a1, a2, a3⟩ := (hus7.ei e8.ei).2 0 x0 f0 hds0
  refine r_ixL (n := 0) (stL (e8 _ _ hb7)) (atI_ok (n := 0) a1) ?_
  walk_at "wp"
  refine r_ixT (n := 1) (stT a2) rfl ?_
  walk_at "wp"
  refine r_lenT (stT a3) ?_
  rw [encI_len, pf0.len]
  walk_at "wp"
  refine ⟨l, c, n, rfl, d8, by omega, by omega, fun s H9 hs x9 d9 => ?_⟩
  walk_at "wp"
  obtain ⟨n3, n4⟩ := d7.new hD4
  refine ⟨D4, s, n, acc, ds.map (·.2), rfl, x9.lst hD4l n3 n4, hI.ei x9.ei, by rw [List.length_map]; exact hg.has, fun f hf => ?_, hs, few, fun TT tp HA eA hT hTn hTl hTc => ?_⟩
  · obtain ⟨p, hp, rfl⟩ := List.mem_map.mp hf
    exact hA p hp
  have dA := d9.ex' eA
  have x1A := x17.trans (x78.trans (x9.trans (Xd.of d9 eA)))
  have hmA := x1A.mac hm1
  have hST : ShutT n ds TT := ⟨hTl, hTn, fun p hp t ht => hTc _ (List.mem_map.mpr ⟨p, hp, rfl⟩) t ht⟩
  with_reducible repeat (first | refine q_seq ?_ | refine q_asg ?_ | refine q_if ?_ | refine q_next ?_)
  refine gen (F := fun R => tAnd _ _ _ _ R) (P := fun R => ∀ HX, Ex HA HX → R false HX) (fun R hR => ?_) (fun HX eX => ?_)
  · walk_at "wp"
    refine r_lenT hT.sq ?_
    rw [encI_len]
    walk_at "wp"
    refine i_d (fun h => ?_) (fun h => hR _ (Ex.refl _))
    walk_at "wp"
    have h2 : 2 ≤ TT.length := by omega
    refine ⟨m, tp, n, ds, TT, rfl, hmA, hg, hT, hST, h2, fun ms HB eB hms => ?_⟩
    walk_at "wp"
    refine ov_free hms (hg.shut hST h2) (Free.shut hA hF hTl hTn hST.shut) fun p x y HC eC hp => ?_
    walk_at "wp"
    refine r_ixT (n := 0) (stT hp) rfl ?_
    walk_at "wp"
    exact hR _ (eB.trans eC)
  · have dX := dA.ex' eX
    have x1X := x1A.trans (Xd.of dA eX)
    have hmX := x1X.mac hm1
    have hbX : HX b = some (.lst us) := x1X.lst (e1 _ _ hb) b1 b2
    have husX := hus1.ei x1X.ei
    have hDX := x1X.lst hDl n1 n2
    refine i_F ?_
    walk_at "wp"
    obtain ⟨pb, qb, c1, c2, c3⟩ := husX.2 0 x0 f0 hds0
    refine r_ixL (n := 0) (stL hbX) (atI_ok (n := 0) c1) ?_
    walk_at "wp"
    refine r_ixT (n := 1) (stT c2) rfl ?_
    walk_at "wp"
    refine r_lenT (stT c3) ?_
    rw [encI_len, pf0.len]
    walk_at "wp"
    refine i_d (fun h => ?_) (fun h => ?_)
    · walk_at "wp"
      exact k _
    have n9 : n ≤ 9 := by omega
    walk_at "wp"
    have hx0 : ((nms ds).map V.str)[0]? = some (.str x0) := by rw [List.getElem?_map, List.getElem?_map, hds0]; rfl
    refine r_ixL (n := 0) (stL hDX) (atI_ok (n := 0) hx0) ?_
    walk_at "wp"
    refine al (by walk_at "sz") fun nl HY hnl eY hY => ?_
    have dY := dX.ex' eY
    obtain ⟨n5, n6⟩ := dX.new hnl
    refine ⟨nl, rfl, ⟨_, stL hY⟩, lc_D dY (fun D2 i acc H' => ∃ es : Ds, PrsD H' D2 acc es ∧ nms es = [x0, bes].take i ∧ ∀ p ∈ es, Pm 3 p.2) walk_list (fun H' x' _ => stL (x'.lst hY n5 n6)) (fun i H1 x H2 y => by rw [y.1]; exact Ex.refl _) (by simp) (fun _ _ _ _ => ⟨[], ⟨rfl, fun i x f h => by simp at h⟩, rfl, fun p h => nm0 h⟩) (fun D2 i acc Ha Hb e h => by
      obtain ⟨es, g1, g2⟩ := h
      exact ⟨es, g1.keep e, g2⟩) (fun D2 i acc x HZ H0 hi x5 d5 p1 p2 hD2l hI y R NN hR hNN => ?_) fun D5 acc5 HZ hD5 p5 p6 xZ dZ hD5l hal5 hI5 => ?_⟩
    · obtain ⟨es, hes, hnm, hpm⟩ := hI
      obtain ⟨rfl, hx⟩ := y
      obtain ⟨z2, hz2, rfl⟩ : ∃ z2, [x0, bes][i]? = some z2 ∧ x = .str z2 := by
        match i, hx with
        | 0, hx => cases hx; exact ⟨_, rfl, rfl⟩
        | 1, hx => cases hx; exact ⟨bes, rfl, rfl⟩
        | i + 2, hx => simp at hx
      refine ⟨rfl, ?_⟩
      walk_at "wp"
      refine al (by walk_at "sz") fun t1 I1 ht1 f1 k1 => ?_
      walk_at "wp"
      refine al (by walk_at "sz") fun t2 I2 ht2 f2 k2 => ?_
      walk_at "wp"
      refine al (by walk_at "sz") fun t3 I3 ht3 f3 k3 => ?_
      walk_at "wp"
      refine al (by walk_at "sz") fun t4 I4 ht4 f4 k4 => ?_
      walk_at "wp"
      refine al (by walk_at "sz") fun t5 I5 ht5 f5 k5 => ?_
      walk_at "wp"
      have f14 := ((f1.trans f2).trans f3).trans f4
      have dI4 := d5.ex' f14
      have dI5 := dI4.ex' f5
      obtain ⟨n7, n8⟩ := dI4.new ht5
      refine ⟨l, c, t5, _, rfl, dI5, k5, n7, n8, by simp, by simp, fun r v I6 hv xI dI => ?_⟩
      obtain ⟨qv, g, rfl, hqv, hgm⟩ : ∃ (q : Addr) (g : List Nat), v = .ref q ∧ I6 q = some (.tup (encI g)) ∧ pmB 3 g = true := by
        match r, hv with
        | 0, hv => cases hv; exact ⟨t1, [1, 2, 0], rfl, xI.tup (f5 _ _ (f4 _ _ (f3 _ _ (f2 _ _ k1)))), by decide⟩
        | 1, hv => cases hv; exact ⟨t2, [0, 2, 1], rfl, xI.tup (f5 _ _ (f4 _ _ (f3 _ _ k2))), by decide⟩
        | 2, hv => cases hv; exact ⟨t3, [2, 0, 1], rfl, xI.tup (f5 _ _ (f4 _ _ k3)), by decide⟩
        | 3, hv => cases hv; exact ⟨t4, [0, 1, 2], rfl, xI.tup (f5 _ _ k4), by decide⟩
        | r + 4, hv => simp at hv
      walk_at "wp"
      refine al (by walk_at "sz") fun pr I7 hpr f7 k7 => ?_
      have x07 : Xd l c H0 I7 := (Xd.of d5 (f14.trans f5)).trans (xI.trans (Xd.of dI f7))
      have hD27 := x07.lst hD2l p1 p2
      refine hR _ I7 x07 (dI.ex' f7) ⟨es ++ [(z2, g)], (hes.ei x07.ei).snoc k7 (f7 _ _ hqv) (ne_obj k7 hD27 fun e => nomatch e) (ne_obj (f7 _ _ hqv) hD27 fun e => nomatch e), ?_, fun p hp => ?_⟩
      · rw [List.take_succ, hz2]
        show List.map _ (es ++ [(z2, g)]) = _
        rw [List.map_append]
        have hnm' : List.map (fun p : Str × List Nat => p.1) es = [x0, bes].take i := hnm
        rw [hnm']
        rfl
      · rcases List.mem_append.mp hp with hp | hp
        · exact hpm p hp
        · rw [List.mem_singleton] at hp
          subst hp
          exact pm_of hgm
    · obtain ⟨es, hes, hnm, hpm⟩ := hI5
      have hnm2 : nms es = [x0, bes] := hnm
      have hel : es.length = 2 := by
        have := congrArg List.length hnm2
        simpa using this
      have hx0n : x0 ≠ bes := fun e => h6 _ (List.mem_of_getElem? hds0) (by
        show x0.length = 6
        rw [e]
        rfl)
      have hge : Good 3 es := ⟨by decide, by decide, by omega, by omega, hpm, fun p hp => by
        have : p.1 ∈ nms es := List.mem_map.mpr ⟨p, hp, rfl⟩
        rw [hnm2] at this
        rcases List.mem_cons.mp this with e | e
        · rw [e]
          exact hg.name _ (List.mem_of_getElem? hds0)
        · rw [List.mem_singleton.mp e]
          exact bes_name, by
        show (nms es).Nodup
        rw [hnm2]
        simpa using hx0n⟩
      have hFe : Free 3 es := free3 hpm
      walk_at "wp"
      have hmZ := xZ.mac (hmX.ex' eY)
      refine e_make ?_
      walk_at "wp"
      refine r_make hD5l hes.ind hge fun m2 J1 j1 hm2 => ?_
      walk_at "wp"
      refine al (by walk_at "sz") fun pr1 J2 hpr1 j2 l2 => ?_
      walk_at "wp"
      refine e_make ?_
      walk_at "wp"
      have j12 := j1.trans j2
      refine r_make (j12 _ _ hD5l) (hes.ei j12.ei).ind hge fun m3 J3 j3 hm3 => ?_
      walk_at "wp"
      refine al (by walk_at "sz") fun pr2 J4 hpr2 j4 l4 => ?_
      walk_at "wp"
      refine al (by walk_at "sz") fun pl J5 hpl j5 l5 => ?_
      walk_at "wp"
      have j15 := ((j12.trans j3).trans j4)
      have dJ4 := dZ.ex' j15
      obtain ⟨n7, n8⟩ := dJ4.new hpl
      refine ⟨l, c, pl, _, rfl, dJ4.ex' j5, l5, n7, n8, by simp, by simp, fun r v J6 hv xJ dJ => ?_⟩
      walk_at "wp"
      have hm6 := xJ.mac (hmZ.ex' (j15.trans j5))
      have hm26 := xJ.mac (hm2.ex' (((j2.trans j3).trans j4).trans j5))
      have hm36 := xJ.mac (hm3.ex' (j4.trans j5))
      have side8 : ∀ (a b : Ds), a.length ≤ 3 → b.length ≤ 3 → (sideN a b).length ≤ 8 := fun a b ha hb => by
        unfold sideN
        have := List.length_filter_le (fun x => decide (x ∉ nms a)) (nms b)
        rw [List.length_append, List.length_map]
        rw [List.length_map] at this
        omega
      match r, hv with
      | 0, hv =>
        cases hv
        have t6 := xJ.tup (j5 _ _ (j4 _ _ (j3 _ _ l2)))
        refine r_ixT (n := 0) (stT t6) rfl ?_
        walk_at "wp"
        refine r_ixT (n := 1) (stT t6) rfl ?_
        walk_at "wp"
        refine ⟨m, m2, n, 3, ds, es, rfl, hm6, hm26, hg, hge, by omega, side8 _ _ h3 (by omega), fun p J7 j7 hp => ?_⟩
        walk_at "wp"
        have hgs := hg.side hge (by omega) (side8 ds es h3 (by omega))
        refine ov_free hp hgs (Free.side hA hpm hgs.perm hF hFe side_dl) fun p x y J8 j8 hp => ?_
        walk_at "wp"
        refine r_ixT (n := 0) (stT hp) rfl ?_
        walk_at "wp"
        exact k _
      | 1, hv =>
        cases hv
        have t6 := xJ.tup (j5 _ _ l4)
        refine r_ixT (n := 0) (stT t6) rfl ?_
        walk_at "wp"
        refine r_ixT (n := 1) (stT t6) rfl ?_
        walk_at "wp"
        refine ⟨m3, m, 3, n, es, ds, rfl, hm36, hm6, hge, hg, by omega, side8 _ _ (by omega) h3, fun p J7 j7 hp => ?_⟩
        walk_at "wp"
        have hgs := hge.side hg (by omega) (side8 es ds (by omega) h3)
        refine ov_free hp hgs (Free.side hpm hA hgs.perm hFe hF side_dl) fun p x y J8 j8 hp => ?_
        walk_at "wp"
        refine r_ixT (n := 0) (stT hp) rfl ?_
        walk_at "wp"
        exact k _
      | r + 2, hv => simp at hv

end
end Eo
namespace Eo
open PySem PyProof.Rows L2 L2.DX
/-! words of the walk: wp goes on where nothing is open; hl looks an object up; ex: what stood stands -/
local macro_rules | `(tactic| walk_at "hl") => `(tactic| first | assumption | exact PlT.sq (by assumption) | (refine stT ?_; walk_at "hl") | (refine stL ?_; walk_at "hl") | (refine Ex.at (by assumption) ?_; walk_at "hl") | (refine Mu.tup (by assumption) ?_; walk_at "hl") | (refine Ex.sqT (by assumption) ?_; walk_at "hl") | (refine Ex.sqL (by assumption) ?_; walk_at "hl") | (refine Ex.plT (by assumption) ?_; walk_at "hl") | (refine Mu.plT (by assumption) ?_; walk_at "hl"))
local macro_rules | `(tactic| walk_at "ex") => `(tactic| first | assumption | exact Ex.refl _ | (refine Ex.trans ?_ (by assumption); walk_at "ex") | (refine Ex.mu ?_ (by assumption) (by first | assumption | walk_at "fr"); walk_at "ex"))
local macro_rules | `(tactic| walk_at "fr") => `(tactic| first | assumption | (refine Ex.free (by assumption) ?_; walk_at "fr"))
local macro_rules | `(tactic| walk_at "rf") => `(tactic| with_unfolding_all rfl)
local macro_rules | `(tactic| walk_at "wp") => `(tactic| repeat (with_reducible first
  | refine q_seq ?_ | refine q_asg ?_ | refine q_ret ?_ | refine q_drop ?_ | refine q_if ?_ | refine q_next ?_ | refine q_par ?_ | refine q_par3 ?_ | refine q_retN ?_ | refine q_cont ?_ | refine q_brk ?_
  | refine e_var (by with_unfolding_all rfl) ?_ | refine e_c ?_ | refine e_op ?_ | refine e_cons ?_ | refine e_nil ?_ | refine e_test ?_ | refine e_B ?_ | refine e_yes ?_ | refine e_cb ?_ | refine e_call ?_ | refine e_then ?_ | refine e_tup ?_ | refine e_lst ?_
  | refine x_bl ?_ | refine i_T ?_ | refine i_F ?_ | refine x_two ?_ | refine x_three ?_
  | refine r_I0 ?_ | refine r_add ?_ | refine r_ip ?_ | refine g_nm ?_ | refine r_eqI ?_ | refine r_neI ?_ | refine r_eq (by with_unfolding_all rfl) ?_ | refine r_ne (by with_unfolding_all rfl) ?_
  | refine e_not ?_ | refine e_and ?_ | refine e_or ?_ | refine e_andV ?_ | refine e_orV ?_ | refine e_notV ?_ | refine e_ifx ?_ | refine e_idxF ?_ | refine e_idxI ?_ | refine e_sl ?_ | refine e_part ?_ | refine e_nopart ?_ | refine f_revA ?_ | refine e_lenSet ?_ | refine l_dcT ?_ | refine e_sadd ?_ | refine q_asgS ?_ | refine q_augS ?_ | refine e_tupRg ?_ | refine e_lstRg ?_ | refine e_rg1 ?_ | refine e_rg2 ?_ | refine e_dget ?_ | refine e_din ?_ | refine e_dnotin ?_ | refine e_dget2 ?_ | refine q_dput ?_ | refine e_un ?_ | refine e_chain ?_ | refine e_bm ?_ | refine e_bm0 ?_ | refine e_fld ?_ | refine q_asgT ?_
  | refine l_any ?_ | refine l_tup ?_ | refine l_list ?_ | refine l_rng1 ?_ | refine l_rng2 ?_ | refine l_str ?_ | refine l_enumL ?_ | refine l_enumT ?_ | refine l_zip ?_ | refine l_zipM ?_
  | refine f_tup ?_ | refine f_list ?_ | refine f_rng1 ?_ | refine f_enumL ?_ | refine f_enumT ?_))
local macro_rules | `(tactic| walk_at "sz") => `(tactic| first | decide | (refine small ?_; simp; done) | (refine small ?_; simp; omega) | (refine smallL ?_; simp; done) | (refine smallL ?_; simp; omega) | (simp; done) | (simp; omega))
section
variable {P : Program} {w : World} {K : PySem.W.Frag} {mg : Str → Option Value} {base : Heap} {C : Addr} {A : Nat → Addr} {FD : Nat → FuncData}
theorem deeds_ind {H : Hp} {vs : List V} {ds : Ds} (h : DeedsAt H vs ds) : InDeeds H vs ds := ⟨h.1, fun i x f hi => let ⟨p, q, h1, h2, h3⟩ := h.2 i x f hi; ⟨p, q, h1, h2, .inr h3⟩⟩
def sp_law (K0 : PySem.W.Frag) : Sp := fun vs H Q _ => ∃ (a : Addr) (ns : List Int), vs = [.ref a] ∧ SqL K0 H a (ns.map V.int) ∧ ∀ H', Q (.bl true) H'
theorem ok_law (T : Tx K mg C A FD) : (FnG P w K mg base CX0 13 (A 66) (FD 66) ["_law_script"] (sp_law K)) := by
  refine okG T.d_law.F sc_law (fun vs H Q E h => by obtain ⟨a, ns, rfl, ha, k⟩ := h; rfl) (fun cdv A0 outer s H vs Q E gd hr h => ?_)
  obtain ⟨a, ns, rfl, ha, k⟩ := h
  have hu := hu_of hr
  have hu64 := hr.units
  have hu2 : _ + 65 < cLine := (fun {A : Around} {k} (hr : Room k A) => (by have := hr.un; omega : A.units + 65 < cLine)) hr
  refine ⟨_, (pss_cons (ps_set (i := 1) sc_law.nd rfl (.inl rfl) (pe_call (ok_L_deal T) (hr.mono (by decide)) (by rfl) T.d_L_deal.g T.d_L_deal.F.kp T.d_L_deal.b .nil pass0 (pa_cons (pv 0) (pa_cons pe_int pa_nil))))
    (pss_cons (ps_set (i := 2) sc_law.nd rfl (.inl rfl) (pe_callG (ok_L_shape T) gd (hr.mono (by decide)) (by rfl) T.d_L_shape.g T.d_L_shape.F.kp T.d_L_shape.b pass0 (pa_cons (pv 1) pa_nil)))
    (pss_cons (ps_set (i := 3) sc_law.nd rfl (.inl rfl) (pe_call (ok_L_deeds T) (hr.mono (by decide)) (by rfl) T.d_L_deeds.g T.d_L_deeds.F.kp T.d_L_deeds.b .nil pass0 (pa_cons (pv 1) (pa_cons (pv 2) pa_nil))))
    (pss_cons (ps_set (i := 4) sc_law.nd rfl (.inl rfl) (pe_make T.mkC (ok_Machine_init T) (hr.mono (by decide)) (by rfl) T.gC T.d_Machine_init.b .nil pass0 (pa_cons (pv 3) pa_nil)))
    (pss_cons (ps_set (i := 5) sc_law.nd rfl (.inl rfl) (pe_call (ok_order_verdict T) (hr.mono (by decide)) (by rfl) T.d_order_verdict.g T.d_order_verdict.F.kp T.d_order_verdict.b .nil pass0 (pa_cons (pv 4) pa_nil)))
    (pss_cons (ps_if (pt_cmpR op_ne (pe_ix (kix_tup K) (pv 5) pe_int (fun _ _ => rfl)) pe_str (nomark _)) (pss_one (ps_ret (pe_and (pe_cmpR op_eq (pe_ix (kix_tup K) (pv 5) pe_int (fun _ _ => rfl)) pe_str (nomark _)) (pe_one (pe_call (ok_L_parts_right T) (hr.mono (by decide)) (by rfl) T.d_L_parts_right.g T.d_L_parts_right.F.kp T.d_L_parts_right.b .nil pass0 (pa_cons (pv 3) (pa_cons (pv 5) pa_nil))))))) pss_nil)
    (pss_cons (ps_setLc (i := 6) rfl sc_law.nd rfl rfl (sw_true rfl rfl rfl (by decide +kernel)) (kpi_list K (pv 3)) (blkOk_by (own := [("_law_name", 9), ("_law_one", 10)]) (N := N_law) (sc := defScope s_law) (by decide +kernel)) (fun _ _ _ _ _ => (kpg_tup K (n := 2) (by rfl) (pgs_cons (pg_name (i := 9) sc_law.nd rfl (by first | exact .inl rfl | exact .inr rfl)) (pgs_cons (pg_name (i := 10) sc_law.nd rfl (by first | exact .inl rfl | exact .inr rfl)) pgs_nil)))) (fun _ _ _ _ _ => pts_nil) (fun _ _ _ _ _ => (pv 10)))
    (pss_cons (ps_set (i := 7) sc_law.nd rfl (.inl rfl) (pe_call (ok_L_ends T) (hr.mono (by decide)) (by rfl) T.d_L_ends.g T.d_L_ends.F.kp T.d_L_ends.b .nil pass0 (pa_cons (pv 6) (pa_cons (pe_ifExp (PW.pt (pw_or (pt_cmpR op_gt (pe_callB (kcall_len K) (by rfl) T.z_len (by decide +kernel) (pa_cons (pv 6) pa_nil)) pe_int (nomark _)) (pw_or1 (pt_cmpR op_gt (pe_callB (kcall_len K) (by rfl) T.z_len (by decide +kernel) (pa_cons (pe_ix (kix_list K) (pv 6) pe_int (fun _ _ => rfl)) pa_nil)) pe_int (nomark _))))) pe_int pe_int) pa_nil))))
    (pss_cons (ps_for PassesOwn.never rfl (kpi_list K (pe_callTy (kcall_list_dT rfl) (by rfl) T.z_list (by decide +kernel) (pa_cons (pv 7) pa_nil))) (pg_name (i := 8) sc_law.nd rfl (by first | exact .inl rfl | exact .inr rfl)) (pss_one (ps_if (pt_not (pt_val (pe_call (ok_L_list_right T) (hr.mono (by decide)) (by rfl) T.d_L_list_right.g T.d_L_list_right.F.kp T.d_L_list_right.b .nil pass0 (pa_cons (pv 6) (pa_cons (pv 8) (pa_cons (pe_dget hu (pv 7) (pv 8) (fun _ _ => rfl)) pa_nil)))))) (pss_one (ps_ret pe_bl)) pss_nil)))
    (pss_one (ps_ret (pe_call (ok_L_beside_right T) (hr.mono (by decide)) (by rfl) T.d_L_beside_right.g T.d_L_beside_right.F.kp T.d_L_beside_right.b .nil pass0 (pa_cons (pv 1) (pa_cons (pv 3) (pa_cons (pv 4) pa_nil))))))))))))))), ?_⟩
  clear hu hu64 hu2
  walk_at "wp"
  refine ⟨a, ns, 70, rfl, ha, by decide, fun l c H1 hl hc e1 d1 => ?_⟩
  walk_at "wp"
  refine ⟨l, c, rfl, d1, fun n fs ws p H2 x2 d2 p1 p2 hp hls h0 h3 hpm h2 h24 => ?_⟩
  walk_at "wp"
  refine ⟨l, c, p, n, ws, fs, rfl, d2, hp, p1, p2, hls, h0, by omega, hpm, h2, by omega, fun us ds b H3 x3 d3 b1 b2 hb hus hg hdl h6 => ?_⟩
  walk_at "wp"
  refine e_make ?_
  walk_at "wp"
  refine r_make hb (deeds_ind hus) hg fun m H4 e4 hm => ?_
  walk_at "wp"
  have d4 := d3.ex' e4
  refine ⟨m, n, ds, rfl, hm, hg, fun t x y H5 e5 ht hF => ?_, fun t r1 r2 r s i j H5 e5 ht hr1 hr2 hc hN1 hN2 hd1 hd2 hB hi hj he hne => ?_⟩
  · walk_at "wp"
    refine r_ixT (n := 0) (stT ht) rfl ?_
    walk_at "wp"
    refine i_nF rfl ?_
    walk_at "wp"
    have e35 := e4.trans e5
    have hb5 := e35 _ _ hb
    have hus5 := hus.ei e35.ei
    have d5 := d4.ex' e5
    have hm5 := hm.ex' e5
    refine ⟨b, rfl, ⟨_, stL hb5⟩, lc_I (fun i acc H' => TupsAt H' acc ((ds.map (fun p : Str × List Nat => p.2)).take i)) (wk_list (stL hb5)) (by rw [hus.1]; omega) (fun _ _ => TupsAt.nil _) (fun _ _ _ _ e h => h.ei e) (fun i acc x H8 H9 hi e9 hI y R NN hR hNN => ?_) fun D acc H6 hD e6 hDl hal hI => ?_⟩
    · obtain ⟨rfl, hx⟩ := y
      obtain ⟨x', f', p', q', hi', rfl, hp', hq'⟩ := (hus5.ei e9.ei).get hx
      refine g_two (stT hp') ?_
      refine ⟨rfl, ?_⟩
      walk_at "wp"
      refine hR _ _ (Ex.refl _) ?_
      rw [List.take_succ, List.getElem?_map, hi']
      exact hI.snoc hq'
    have hul : us.length = (ds.map (·.2)).length := by rw [hus.1, List.length_map]
    rw [hul, List.take_length] at hI
    have hal2 : acc.length = ds.length := by rw [hI.1, List.length_map]
    obtain ⟨q0, g1, g2⟩ := hI.2 0 _ (fdx_get hg.has)
    with_reducible repeat (first | refine q_seq ?_ | refine q_asg ?_ | refine q_next ?_ | refine e_call ?_ | refine e_cons ?_ | refine e_var (by walk_at "rf") ?_)
    refine gen (F := fun R => tIf _ _ _ _ _ R) (P := fun R => ∀ M : Nat, M ≤ 6 → R (.int (M : Nat)) H6) (fun R hR => ?_) (fun M hM => ?_)
    · walk_at "wp"
      refine r_lenL (stL hDl) ?_
      walk_at "wp"
      refine i_d (fun h => ?_) (fun h => ?_)
      · refine i_T ?_
        walk_at "wp"
        exact hR 4 (by decide)
      · walk_at "wp"
        refine r_ixL (n := 0) (stL hDl) (atI_ok (n := 0) g1) ?_
        walk_at "wp"
        refine r_lenT (stT g2) ?_
        walk_at "wp"
        refine i_d (fun h => ?_) (fun h => ?_)
        · walk_at "wp"
          exact hR 4 (by decide)
        · walk_at "wp"
          exact hR 6 (by decide)
    walk_at "wp"
    refine ⟨D, M, n, ds, acc, rfl, hDl, hI, hg, hM, by omega, fun d kvs H7 e7 hd7 hTab => ?_⟩
    walk_at "wp"
    refine ⟨d, kvs, rfl, .inl hd7, fun lb bs hlb hk => ?_⟩
    generalize hH8 : upd H7 lb (.lst (bs.map V.ref)) = H8
    have e8 : Ex H7 H8 := by rw [← hH8]; exact Ex.new hlb
    have l8 : H8 lb = some (.lst (bs.map V.ref)) := by rw [← hH8]; exact upd_same
    clear hH8
    have e68 := e7.trans e8
    refine ⟨lb, rfl, ⟨_, stL l8⟩, fr_W walk_list (fun i σ H9 => Ex H8 H9 ∧ ∃ (o8 o9 o10 : Option V), σ = [some (.ref a), some (.ref l), some (.ref p), some (.ref b), some (.ref m), some (.ref t), some (.ref D), some (.ref d), o8, o9, o10])
      ⟨Ex.refl _, _, _, _, rfl⟩ (fun i σ H9 hi h => stL (h.1 _ _ l8)) (fun i x σ H9z H9 hi h y => ?_) (fun σ H9 h => ?_)⟩
    · obtain ⟨e9, o8, o9, o10, rfl⟩ := h
      obtain ⟨rfl, hx⟩ := y
      obtain ⟨cb, hcb, rfl⟩ : ∃ b, bs[i]? = some b ∧ x = .ref b := by
        rw [List.getElem?_map, Option.map_eq_some_iff] at hx
        obtain ⟨b, h1, h2⟩ := hx
        exact ⟨b, h1, h2.symm⟩
      obtain ⟨kp, hkp, hbt⟩ := paired_at hk hcb
      obtain ⟨cs, _, _, _, hk1, _⟩ := hTab kp.1 kp.2 (List.mem_of_getElem? hkp)
      obtain ⟨v, hv⟩ := valV_of_key (List.mem_map.mpr ⟨kp, List.mem_of_getElem? hkp, rfl⟩ : kp.1 ∈ kvs.map (·.1))
      rw [hk1] at hbt hv
      rw [encK_V] at hbt
      obtain ⟨E, pE, es, rfl, hpE, hes, hEok⟩ := hTab.get hv
      have e79 := e8.trans e9
      have e69 := e68.trans e9
      walk_at "wp"
      refine ⟨d, _, rfl, dget_T (e79 _ _ hd7) (e79 _ _ hbt) hv, ?_⟩
      walk_at "wp"
      refine ⟨D, cb, pE, n, ds, acc, es, cs, E, rfl, e69 _ _ hDl, hI.ei e69.ei, e79 _ _ hbt, e79 _ _ hpE, hes.ei e79.ei, hg, hF, hEok, fun HA eA => ?_⟩
      walk_at "wp"
      refine i_F ?_
      walk_at "wp"
      exact ⟨e9.trans eA, _, _, _, rfl⟩
    · obtain ⟨e9, o8, o9, o10, rfl⟩ := h
      walk_at "wp"
      have e59 := e6.trans (e68.trans e9)
      exact ⟨l, c, b, m, n, ds, us, rfl, d5.ex' e59, e59 _ _ hb5, b1, b2, hus5.ei e59.ei, hm5.ex' e59, hg, hF, by omega, h6, k⟩
  · walk_at "wp"
    refine r_ixT (n := 0) (stT ht) rfl ?_
    walk_at "wp"
    refine i_nT (by decide) ?_
    walk_at "wp"
    refine r_ixT (n := 0) (stT ht) rfl ?_
    walk_at "wp"
    refine i_dT rfl ?_
    walk_at "wp"
    have e35 := e4.trans e5
    obtain ⟨hB1, hB2⟩ := hB h24
    exact ⟨b, t, r1, r2, n, i, j, r, s, ds, us, rfl, e35 _ _ hb, hus.ei e35.ei, hg, ht, hr1, hr2, hc, hN1, hN2, hd1, hd2, hB1, hB2, hi, hj, he, hne, fun H' _ => k H'⟩

end
end Eo
namespace Eo
open PySem PySem.Spec PyProof.Rows L2
theorem df_mk {K : PySem.W.Frag} {h : Heap} {mg : Str → Option Value} (X : K.In h) (G : h.Ns mainGlobals mg) {x qual : Str} {st : Stmt} {ps : List Str} {f : Addr} {oc : Value} {od an : Option Addr} {osl : Array (Option Value)} {kV doc pm cdv ct : Value}
    (a : PySem.W.nsIn K mainGlobals x = some (some (.ref f))) (l : K.lookup f = some ⟨oc, od, .func (PySem.W.fnOf x qual (defArgs st) (defBody st) (defScope st) .none kV doc pm an cdv ct), osl⟩)
    (c : PySem.W.codeIn K cdv qual = true) (k : PySem.W.keepIn K (.ref f) = true)
    (hb : ∀ (kV doc pm : Value) (an : Option Addr) (cdv ct : Value) (us : List Value), us.length = ps.length → bindArgs (PySem.W.fnOf x qual (defArgs st) (defBody st) (defScope st) .none kV doc pm an cdv ct) ⟨us, []⟩ = pure (ps.zip us)) : ∃ fd, Df K mg x qual st ps f fd := by
  have F := fun_mk (st := st) l c k
  exact ⟨_, F, F.binds hb, PySem.W.mg_of X G a⟩
theorem dm_mk {K : PySem.W.Frag} {x qual : Str} {st : Stmt} {ps : List Str} {f : Addr} {oc : Value} {od an : Option Addr} {osl : Array (Option Value)} {kV doc pm cdv ct : Value}
    (l : K.lookup f = some ⟨oc, od, .func (PySem.W.fnOf x qual (defArgs st) (defBody st) (defScope st) .none kV doc pm an cdv ct), osl⟩)
    (c : PySem.W.codeIn K cdv qual = true) (k : PySem.W.keepIn K (.ref f) = true)
    (hb : ∀ (kV doc pm : Value) (an : Option Addr) (cdv ct : Value) (us : List Value), us.length = ps.length → bindArgs (PySem.W.fnOf x qual (defArgs st) (defBody st) (defScope st) .none kV doc pm an cdv ct) ⟨us, []⟩ = pure (ps.zip us)) : ∃ fd, Dm K x qual st ps f fd := by
  have F := fun_mk (st := st) l c k
  exact ⟨_, F, F.binds hb⟩
theorem fin {P : Program} {w : World} {K : PySem.W.Frag} {mg : Str → Option Value} {fa C f0 f1 f2 f3 f4 f5 f6 f7 f8 f9 f10 f11 f12 f13 f14 f15 f16 f17 f18 f19 f20 f21 f22 f23 f24 f25 f26 f27 f28 f29 f30 f31 f32 f33 f34 f35 f36 f37 f38 f39 f40 f41 f42 f43 f44 f45 f46 f47 f48 f49 f50 f51 f52 f53 f54 f55 f56 f57 f58 f59 f60 f61 f62 f63 f64 f65 f66 : Addr} (hfa : mg "law" = some (.ref fa))
    (cl : Cls K C) (nD : PySem.W.findIn K (.ref C) "deeds" = some none) (nN : PySem.W.findIn K (.ref C) "names" = some none) (nS : PySem.W.findIn K (.ref C) "size" = some none) (gC : mg "Machine" = some (.ref C))
    (D0 : ∃ fd, Df K mg "is_integer" "is_integer" s_is_integer ["value"] f0 fd)
    (D1 : ∃ fd, Df K mg "is_below" "is_below" s_is_below ["value", "bound"] f1 fd)
    (D2 : ∃ fd, Df K mg "is_text" "is_text" s_is_text ["value"] f2 fd)
    (D3 : ∃ fd, Df K mg "is_sequence" "is_sequence" s_is_sequence ["value"] f3 fd)
    (D4 : ∃ fd, Df K mg "is_name" "is_name" s_is_name ["value"] f4 fd)
    (D5 : ∃ fd, Df K mg "common_divisor" "common_divisor" s_common_divisor ["one", "other"] f5 fd)
    (D6 : ∃ fd, Df K mg "common_multiple" "common_multiple" s_common_multiple ["one", "other"] f6 fd)
    (D7 : ∃ fd, Df K mg "row_depth" "row_depth" s_row_depth ["row"] f7 fd)
    (D8 : ∃ fd, Df K mg "first_stranger" "first_stranger" s_first_stranger ["row", "names"] f8 fd)
    (D9 : ∃ fd, Df K mg "need_names" "need_names" s_need_names ["row", "names"] f9 fd)
    (D10 : ∃ fd, Df K mg "name_counts" "name_counts" s_name_counts ["row", "names"] f10 fd)
    (D11 : ∃ fd, Df K mg "row_counts" "row_counts" s_row_counts ["row", "names"] f11 fd)
    (D12 : ∃ fd, Df K mg "is_deed" "is_deed" s_is_deed ["value", "earlier"] f12 fd)
    (mk : Mk K C f13) (D13 : ∃ fd, Dm K "__init__" "Machine.__init__" s_Machine_init ["self", "deeds"] f13 fd)
    (D14 : ∃ fd, Df K mg "effect_then" "effect_then" s_effect_then ["one", "other"] f14 fd)
    (D15 : ∃ fd, Df K mg "power_by" "power_by" s_power_by ["thing", "times", "nothing", "then"] f15 fd)
    (D16 : ∃ fd, Df K mg "made_by" "made_by" s_made_by ["row", "deeds", "nothing", "then"] f16 fd)
    (D17 : ∃ fd, Df K mg "row_effect" "row_effect" s_row_effect ["machine", "row"] f17 fd)
    (D18 : ∃ fd, Df K mg "fewer_deeds" "fewer_deeds" s_fewer_deeds ["machine", "names"] f18 fd)
    (D19 : ∃ fd, Df K mg "side_machine" "side_machine" s_side_machine ["one", "other"] f19 fd)
    (D20 : ∃ fd, Df K mg "undone_effect" "undone_effect" s_undone_effect ["effect"] f20 fd)
    (D21 : ∃ fd, Df K mg "parted_state" "parted_state" s_parted_state ["one", "other"] f21 fd)
    (D22 : ∃ fd, Df K mg "turn_rings" "turn_rings" s_turn_rings ["turn"] f22 fd)
    (D23 : ∃ fd, Df K mg "turn_round" "turn_round" s_turn_round ["turn"] f23 fd)
    (D24 : ∃ fd, Df K mg "turn_fault" "turn_fault" s_turn_fault ["machine"] f24 fd)
    (D25 : ∃ fd, Df K mg "need_permuting" "need_permuting" s_need_permuting ["machine"] f25 fd)
    (D26 : ∃ fd, Df K mg "backward_parts" "backward_parts" s_backward_parts ["row", "rounds"] f26 fd)
    (D27 : ∃ fd, Df K mg "named_rounds" "named_rounds" s_named_rounds ["machine"] f27 fd)
    (D28 : ∃ fd, Df K mg "back_row" "back_row" s_back_row ["machine", "row"] f28 fd)
    (D29 : ∃ fd, Df K mg "mixed_row" "mixed_row" s_mixed_row ["machine", "u", "v"] f29 fd)
    (D30 : ∃ fd, Df K mg "counted_row" "counted_row" s_counted_row ["machine", "counts"] f30 fd)
    (D31 : ∃ fd, Df K mg "lacking_counts" "lacking_counts" s_lacking_counts ["most", "counts"] f31 fd)
    (D32 : ∃ fd, Df K mg "resting_effect" "resting_effect" s_resting_effect ["machine"] f32 fd)
    (D33 : ∃ fd, Df K mg "first_still" "first_still" s_first_still ["effect"] f33 fd)
    (D34 : ∃ fd, Df K mg "first_mixes" "first_mixes" s_first_mixes ["machine"] f34 fd)
    (D35 : ∃ fd, Df K mg "led_around" "led_around" s_led_around ["deed", "rounds", "step"] f35 fd)
    (D36 : ∃ fd, Df K mg "still_quotient" "still_quotient" s_still_quotient ["one", "other"] f36 fd)
    (D37 : ∃ fd, Df K mg "listed_mixes" "listed_mixes" s_listed_mixes ["machine", "steps"] f37 fd)
    (D38 : ∃ fd, Df K mg "search_mixes" "search_mixes" s_search_mixes ["machine"] f38 fd)
    (D39 : ∃ fd, Df K mg "order_verdict" "order_verdict" s_order_verdict ["machine"] f39 fd)
    (D40 : ∃ fd, Df K mg "shut_leak" "shut_leak" s_shut_leak ["machine", "states"] f40 fd)
    (D41 : ∃ fd, Df K mg "shut_machine" "shut_machine" s_shut_machine ["machine", "states"] f41 fd)
    (D42 : ∃ fd, Df K mg "_law_deal" "_law_deal" s_L_deal ["_law_script", "_law_base"] f42 fd)
    (D43 : ∃ fd, Df K mg "_law_any" "_law_any" s_L_any ["_law_deal_here", "_law_bound"] f43 fd)
    (D44 : ∃ fd, Df K mg "_law_of" "_law_of" s_L_of ["_law_deal_here", "_law_some"] f44 fd)
    (D45 : ∃ fd, Df K mg "_law_turn" "_law_turn" s_L_turn ["_law_deal_here", "_law_many"] f45 fd)
    (D46 : ∃ fd, Df K mg "_law_common" "_law_common" s_L_common ["_law_one", "_law_other"] f46 fd)
    (D47 : ∃ fd, Df K mg "_law_then" "_law_then" s_L_then ["_law_one", "_law_other"] f47 fd)
    (D48 : ∃ fd, Df K mg "_law_regular" "_law_regular" s_L_regular ["_law_turns"] f48 fd)
    (D49 : ∃ fd, Df K mg "_law_hours" "_law_hours" s_L_hours ["_law_deal_here"] f49 fd)
    (D50 : ∃ fd, Df K mg "_law_sheared" "_law_sheared" s_L_sheared ["_law_deal_here"] f50 fd)
    (D51 : ∃ fd, Df K mg "_law_signed" "_law_signed" s_L_signed ["_law_deal_here"] f51 fd)
    (D52 : ∃ fd, Df K mg "_law_wheels" "_law_wheels" s_L_wheels ["_law_deal_here"] f52 fd)
    (D53 : ∃ fd, Df K mg "_law_apart" "_law_apart" s_L_apart ["_law_deal_here"] f53 fd)
    (D54 : ∃ fd, Df K mg "_law_shape" "_law_shape" s_L_shape ["_law_deal_here"] f54 fd)
    (D55 : ∃ fd, Df K mg "_law_names" "_law_names" s_L_names ["_law_deal_here", "_law_many"] f55 fd)
    (D56 : ∃ fd, Df K mg "_law_placed" "_law_placed" s_L_placed ["_law_places", "_law_one"] f56 fd)
    (D57 : ∃ fd, Df K mg "_law_deeds" "_law_deeds" s_L_deeds ["_law_deal_here", "_law_turns"] f57 fd)
    (D58 : ∃ fd, Df K mg "_law_raised" "_law_raised" s_L_raised ["_law_effect_here", "_law_times"] f58 fd)
    (D59 : ∃ fd, Df K mg "_law_effect" "_law_effect" s_L_effect ["_law_deeds_here", "_law_row"] f59 fd)
    (D60 : ∃ fd, Df K mg "_law_counts" "_law_counts" s_L_counts ["_law_names_here", "_law_row"] f60 fd)
    (D61 : ∃ fd, Df K mg "_law_ends" "_law_ends" s_L_ends ["_law_turns", "_law_most"] f61 fd)
    (D62 : ∃ fd, Df K mg "_law_list_right" "_law_list_right" s_L_list_right ["_law_turns", "_law_counts_here", "_law_effects"] f62 fd)
    (D63 : ∃ fd, Df K mg "_law_parts_right" "_law_parts_right" s_L_parts_right ["_law_deeds_here", "_law_told"] f63 fd)
    (D64 : ∃ fd, Df K mg "_law_shut" "_law_shut" s_L_shut ["_law_images_of_all", "_law_start"] f64 fd)
    (D65 : ∃ fd, Df K mg "_law_beside_right" "_law_beside_right" s_L_beside_right ["_law_deal_here", "_law_deeds_here", "_law_machine"] f65 fd)
    (D66 : ∃ fd, Df K mg "law" "law" s_law ["_law_script"] f66 fd)
    (z_abs : mg "abs" = none) (z_all : mg "all" = none) (z_bool : mg "bool" = none) (z_dict : mg "dict" = none) (z_enumerate : mg "enumerate" = none) (z_int : mg "int" = none) (z_isinstance : mg "isinstance" = none) (z_len : mg "len" = none) (z_list : mg "list" = none) (z_max : mg "max" = none) (z_range : mg "range" = none) (z_repr : mg "repr" = none) (z_reversed : mg "reversed" = none) (z_set : mg "set" = none) (z_sorted : mg "sorted" = none) (z_str : mg "str" = none) (z_tuple : mg "tuple" = none) (z_zip : mg "zip" = none)
    (g_LETTERS : ∃ t, mg "LETTERS" = some (Value.str "abcdefghijklmnopqrstuvwxyz" t)) (g_LONGEST : ∃ t, mg "LONGEST" = some (Value.int 8 t)) (g_MOST_STATES : ∃ t, mg "MOST_STATES" = some (Value.int 49 t)) (g_MOST_DEEDS : ∃ t, mg "MOST_DEEDS" = some (Value.int 8 t)) (g_DEEPEST : ∃ t, mg "DEEPEST" = some (Value.int 8 t)) :
    ∃ fd : FuncData, (∀ (s : Shared) (u : Value), BindsTo s fd ⟨[u], []⟩ [("_law_script", u)]) ∧ ∀ base : Heap, K.In base → base.Ns mainGlobals mg → FnG P w K mg base CX0 13 fa fd ["_law_script"] (sp_law K) := by
  obtain ⟨fd0, D0⟩ := D0
  obtain ⟨fd1, D1⟩ := D1
  obtain ⟨fd2, D2⟩ := D2
  obtain ⟨fd3, D3⟩ := D3
  obtain ⟨fd4, D4⟩ := D4
  obtain ⟨fd5, D5⟩ := D5
  obtain ⟨fd6, D6⟩ := D6
  obtain ⟨fd7, D7⟩ := D7
  obtain ⟨fd8, D8⟩ := D8
  obtain ⟨fd9, D9⟩ := D9
  obtain ⟨fd10, D10⟩ := D10
  obtain ⟨fd11, D11⟩ := D11
  obtain ⟨fd12, D12⟩ := D12
  obtain ⟨fd13, D13⟩ := D13
  obtain ⟨fd14, D14⟩ := D14
  obtain ⟨fd15, D15⟩ := D15
  obtain ⟨fd16, D16⟩ := D16
  obtain ⟨fd17, D17⟩ := D17
  obtain ⟨fd18, D18⟩ := D18
  obtain ⟨fd19, D19⟩ := D19
  obtain ⟨fd20, D20⟩ := D20
  obtain ⟨fd21, D21⟩ := D21
  obtain ⟨fd22, D22⟩ := D22
  obtain ⟨fd23, D23⟩ := D23
  obtain ⟨fd24, D24⟩ := D24
  obtain ⟨fd25, D25⟩ := D25
  obtain ⟨fd26, D26⟩ := D26
  obtain ⟨fd27, D27⟩ := D27
  obtain ⟨fd28, D28⟩ := D28
  obtain ⟨fd29, D29⟩ := D29
  obtain ⟨fd30, D30⟩ := D30
  obtain ⟨fd31, D31⟩ := D31
  obtain ⟨fd32, D32⟩ := D32
  obtain ⟨fd33, D33⟩ := D33
  obtain ⟨fd34, D34⟩ := D34
  obtain ⟨fd35, D35⟩ := D35
  obtain ⟨fd36, D36⟩ := D36
  obtain ⟨fd37, D37⟩ := D37
  obtain ⟨fd38, D38⟩ := D38
  obtain ⟨fd39, D39⟩ := D39
  obtain ⟨fd40, D40⟩ := D40
  obtain ⟨fd41, D41⟩ := D41
  obtain ⟨fd42, D42⟩ := D42
  obtain ⟨fd43, D43⟩ := D43
  obtain ⟨fd44, D44⟩ := D44
  obtain ⟨fd45, D45⟩ := D45
  obtain ⟨fd46, D46⟩ := D46
  obtain ⟨fd47, D47⟩ := D47
  obtain ⟨fd48, D48⟩ := D48
  obtain ⟨fd49, D49⟩ := D49
  obtain ⟨fd50, D50⟩ := D50
  obtain ⟨fd51, D51⟩ := D51
  obtain ⟨fd52, D52⟩ := D52
  obtain ⟨fd53, D53⟩ := D53
  obtain ⟨fd54, D54⟩ := D54
  obtain ⟨fd55, D55⟩ := D55
  obtain ⟨fd56, D56⟩ := D56
  obtain ⟨fd57, D57⟩ := D57
  obtain ⟨fd58, D58⟩ := D58
  obtain ⟨fd59, D59⟩ := D59
  obtain ⟨fd60, D60⟩ := D60
  obtain ⟨fd61, D61⟩ := D61
  obtain ⟨fd62, D62⟩ := D62
  obtain ⟨fd63, D63⟩ := D63
  obtain ⟨fd64, D64⟩ := D64
  obtain ⟨fd65, D65⟩ := D65
  obtain ⟨fd66, D66⟩ := D66
  have e := hfa.symm.trans D66.g
  cases e
  have hb : ∀ (s : Shared) (u : Value), BindsTo s fd66 ⟨[u], []⟩ [("_law_script", u)] := by
    obtain ⟨oc, od, kV, doc, pm, an, cdv, ct, osl, e, _⟩ := D66.F.ex
    intro s u
    rw [e]
    exact .of_eq rfl
  have T : Tx K mg C (fun i => [f0, f1, f2, f3, f4, f5, f6, f7, f8, f9, f10, f11, f12, f13, f14, f15, f16, f17, f18, f19, f20, f21, f22, f23, f24, f25, f26, f27, f28, f29, f30, f31, f32, f33, f34, f35, f36, f37, f38, f39, f40, f41, f42, f43, f44, f45, f46, f47, f48, f49, f50, f51, f52, f53, f54, f55, f56, f57, f58, f59, f60, f61, f62, f63, f64, f65, fa].getD i f0) (fun i => [fd0, fd1, fd2, fd3, fd4, fd5, fd6, fd7, fd8, fd9, fd10, fd11, fd12, fd13, fd14, fd15, fd16, fd17, fd18, fd19, fd20, fd21, fd22, fd23, fd24, fd25, fd26, fd27, fd28, fd29, fd30, fd31, fd32, fd33, fd34, fd35, fd36, fd37, fd38, fd39, fd40, fd41, fd42, fd43, fd44, fd45, fd46, fd47, fd48, fd49, fd50, fd51, fd52, fd53, fd54, fd55, fd56, fd57, fd58, fd59, fd60, fd61, fd62, fd63, fd64, fd65, fd66].getD i fd0) := {
    cl := cl, nD := nD, nN := nN, nS := nS, gC := gC
    d_is_integer := D0
    d_is_below := D1
    d_is_text := D2
    d_is_sequence := D3
    d_is_name := D4
    d_common_divisor := D5
    d_common_multiple := D6
    d_row_depth := D7
    d_first_stranger := D8
    d_need_names := D9
    d_name_counts := D10
    d_row_counts := D11
    d_is_deed := D12
    mkC := mk
    d_Machine_init := D13
    d_effect_then := D14
    d_power_by := D15
    d_made_by := D16
    d_row_effect := D17
    d_fewer_deeds := D18
    d_side_machine := D19
    d_undone_effect := D20
    d_parted_state := D21
    d_turn_rings := D22
    d_turn_round := D23
    d_turn_fault := D24
    d_need_permuting := D25
    d_backward_parts := D26
    d_named_rounds := D27
    d_back_row := D28
    d_mixed_row := D29
    d_counted_row := D30
    d_lacking_counts := D31
    d_resting_effect := D32
    d_first_still := D33
    d_first_mixes := D34
    d_led_around := D35
    d_still_quotient := D36
    d_listed_mixes := D37
    d_search_mixes := D38
    d_order_verdict := D39
    d_shut_leak := D40
    d_shut_machine := D41
    d_L_deal := D42
    d_L_any := D43
    d_L_of := D44
    d_L_turn := D45
    d_L_common := D46
    d_L_then := D47
    d_L_regular := D48
    d_L_hours := D49
    d_L_sheared := D50
    d_L_signed := D51
    d_L_wheels := D52
    d_L_apart := D53
    d_L_shape := D54
    d_L_names := D55
    d_L_placed := D56
    d_L_deeds := D57
    d_L_raised := D58
    d_L_effect := D59
    d_L_counts := D60
    d_L_ends := D61
    d_L_list_right := D62
    d_L_parts_right := D63
    d_L_shut := D64
    d_L_beside_right := D65
    d_law := D66
    z_abs := z_abs
    z_all := z_all
    z_bool := z_bool
    z_dict := z_dict
    z_enumerate := z_enumerate
    z_int := z_int
    z_isinstance := z_isinstance
    z_len := z_len
    z_list := z_list
    z_max := z_max
    z_range := z_range
    z_repr := z_repr
    z_reversed := z_reversed
    z_set := z_set
    z_sorted := z_sorted
    z_str := z_str
    z_tuple := z_tuple
    z_zip := z_zip
    g_LETTERS := g_LETTERS
    g_LONGEST := g_LONGEST
    g_MOST_STATES := g_MOST_STATES
    g_MOST_DEEDS := g_MOST_DEEDS
    g_DEEPEST := g_DEEPEST
  }
  exact ⟨fd66, hb, fun base _ _ => ok_law T⟩
end Eo
open PySem PySem.W PyProof.Rows Eo
set_option maxRecDepth 100000 in
set_option maxHeartbeats 0 in
theorem PySem.Challenge.cw_eitheronce_k70_whole_orders_of_one_list_holds : PySem.Challenge.rw_eitheronce_k70_whole_orders_of_one_list.Holds := by
  w_on; o_law; k_head; (case hw => w_witness2)
  k_fill
  refine Eo.walk_ofG (l := PySem.Challenge.rw_eitheronce_k70_whole_orders_of_one_list) (n := 63) (k := 13) (x := "_law_script") (sp := fun w => Eo.sp_law _) rfl (by decide) rfl ⟨rfl, by decide, by decide⟩ (fun w h Y => PySem.W.kIn_of Y) ?F (fun w H a ns hl hO hS => ⟨a, ns, rfl, hS, fun _ => rfl⟩)
  case F =>
    intro w mg fa h KX G hmg
    have aC : mg "Machine" = some (.ref _) := mg_of KX G (by k_is)
    refine' Eo.fin (C := _) hmg ⟨?pg, ?hd, ?po, ?sa⟩ ?nD ?nN ?nS aC ?D0 ?D1 ?D2 ?D3 ?D4 ?D5 ?D6 ?D7 ?D8 ?D9 ?D10 ?D11 ?D12 ⟨?mk, ?ini, ?fn, ?kp⟩ ?D13 ?D14 ?D15 ?D16 ?D17 ?D18 ?D19 ?D20 ?D21 ?D22 ?D23 ?D24 ?D25 ?D26 ?D27 ?D28 ?D29 ?D30 ?D31 ?D32 ?D33 ?D34 ?D35 ?D36 ?D37 ?D38 ?D39 ?D40 ?D41 ?D42 ?D43 ?D44 ?D45 ?D46 ?D47 ?D48 ?D49 ?D50 ?D51 ?D52 ?D53 ?D54 ?D55 ?D56 ?D57 ?D58 ?D59 ?D60 ?D61 ?D62 ?D63 ?D64 ?D65 ?D66 ?zabs ?zall ?zbool ?zdict ?zenumerate ?zint ?zisinstance ?zlen ?zlist ?zmax ?zrange ?zrepr ?zreversed ?zset ?zsorted ?zstr ?ztuple ?zzip ?gLETTERS ?gLONGEST ?gMOST_STATES ?gMOST_DEEDS ?gDEEPEST
    (case pg => k_is)
    (case hd => k_is)
    (case po => k_is)
    (case sa => k_is)
    (case nD => k_is)
    (case nN => k_is)
    (case nS => k_is)
    (case D0 => exact Eo.df_mk KX G (by k_is) (by k_is) (by k_is) (by k_is) (fun _ _ _ _ _ _ us hl => match us, hl with | [_], _ => rfl))
    (case D1 => exact Eo.df_mk KX G (by k_is) (by k_is) (by k_is) (by k_is) (fun _ _ _ _ _ _ us hl => match us, hl with | [_, _], _ => rfl))
    (case D2 => exact Eo.df_mk KX G (by k_is) (by k_is) (by k_is) (by k_is) (fun _ _ _ _ _ _ us hl => match us, hl with | [_], _ => rfl))
    (case D3 => exact Eo.df_mk KX G (by k_is) (by k_is) (by k_is) (by k_is) (fun _ _ _ _ _ _ us hl => match us, hl with | [_], _ => rfl))
    (case D4 => exact Eo.df_mk KX G (by k_is) (by k_is) (by k_is) (by k_is) (fun _ _ _ _ _ _ us hl => match us, hl with | [_], _ => rfl))
    (case D5 => exact Eo.df_mk KX G (by k_is) (by k_is) (by k_is) (by k_is) (fun _ _ _ _ _ _ us hl => match us, hl with | [_, _], _ => rfl))
    (case D6 => exact Eo.df_mk KX G (by k_is) (by k_is) (by k_is) (by k_is) (fun _ _ _ _ _ _ us hl => match us, hl with | [_, _], _ => rfl))
    (case D7 => exact Eo.df_mk KX G (by k_is) (by k_is) (by k_is) (by k_is) (fun _ _ _ _ _ _ us hl => match us, hl with | [_], _ => rfl))
    (case D8 => exact Eo.df_mk KX G (by k_is) (by k_is) (by k_is) (by k_is) (fun _ _ _ _ _ _ us hl => match us, hl with | [_, _], _ => rfl))
    (case D9 => exact Eo.df_mk KX G (by k_is) (by k_is) (by k_is) (by k_is) (fun _ _ _ _ _ _ us hl => match us, hl with | [_, _], _ => rfl))
    (case D10 => exact Eo.df_mk KX G (by k_is) (by k_is) (by k_is) (by k_is) (fun _ _ _ _ _ _ us hl => match us, hl with | [_, _], _ => rfl))
    (case D11 => exact Eo.df_mk KX G (by k_is) (by k_is) (by k_is) (by k_is) (fun _ _ _ _ _ _ us hl => match us, hl with | [_, _], _ => rfl))
    (case D12 => exact Eo.df_mk KX G (by k_is) (by k_is) (by k_is) (by k_is) (fun _ _ _ _ _ _ us hl => match us, hl with | [_, _], _ => rfl))
    (case mk => k_is); (case ini => k_is); (case fn => k_is); (case kp => k_is)
    (case D13 => exact Eo.dm_mk (by k_is) (by k_is) (by k_is) (fun _ _ _ _ _ _ us hl => match us, hl with | [_, _], _ => rfl))
    (case D14 => exact Eo.df_mk KX G (by k_is) (by k_is) (by k_is) (by k_is) (fun _ _ _ _ _ _ us hl => match us, hl with | [_, _], _ => rfl))
    (case D15 => exact Eo.df_mk KX G (by k_is) (by k_is) (by k_is) (by k_is) (fun _ _ _ _ _ _ us hl => match us, hl with | [_, _, _, _], _ => rfl))
    (case D16 => exact Eo.df_mk KX G (by k_is) (by k_is) (by k_is) (by k_is) (fun _ _ _ _ _ _ us hl => match us, hl with | [_, _, _, _], _ => rfl))
    (case D17 => exact Eo.df_mk KX G (by k_is) (by k_is) (by k_is) (by k_is) (fun _ _ _ _ _ _ us hl => match us, hl with | [_, _], _ => rfl))
    (case D18 => exact Eo.df_mk KX G (by k_is) (by k_is) (by k_is) (by k_is) (fun _ _ _ _ _ _ us hl => match us, hl with | [_, _], _ => rfl))
    (case D19 => exact Eo.df_mk KX G (by k_is) (by k_is) (by k_is) (by k_is) (fun _ _ _ _ _ _ us hl => match us, hl with | [_, _], _ => rfl))
    (case D20 => exact Eo.df_mk KX G (by k_is) (by k_is) (by k_is) (by k_is) (fun _ _ _ _ _ _ us hl => match us, hl with | [_], _ => rfl))
    (case D21 => exact Eo.df_mk KX G (by k_is) (by k_is) (by k_is) (by k_is) (fun _ _ _ _ _ _ us hl => match us, hl with | [_, _], _ => rfl))
    (case D22 => exact Eo.df_mk KX G (by k_is) (by k_is) (by k_is) (by k_is) (fun _ _ _ _ _ _ us hl => match us, hl with | [_], _ => rfl))
    (case D23 => exact Eo.df_mk KX G (by k_is) (by k_is) (by k_is) (by k_is) (fun _ _ _ _ _ _ us hl => match us, hl with | [_], _ => rfl))
    (case D24 => exact Eo.df_mk KX G (by k_is) (by k_is) (by k_is) (by k_is) (fun _ _ _ _ _ _ us hl => match us, hl with | [_], _ => rfl))
    (case D25 => exact Eo.df_mk KX G (by k_is) (by k_is) (by k_is) (by k_is) (fun _ _ _ _ _ _ us hl => match us, hl with | [_], _ => rfl))
    (case D26 => exact Eo.df_mk KX G (by k_is) (by k_is) (by k_is) (by k_is) (fun _ _ _ _ _ _ us hl => match us, hl with | [_, _], _ => rfl))
    (case D27 => exact Eo.df_mk KX G (by k_is) (by k_is) (by k_is) (by k_is) (fun _ _ _ _ _ _ us hl => match us, hl with | [_], _ => rfl))
    (case D28 => exact Eo.df_mk KX G (by k_is) (by k_is) (by k_is) (by k_is) (fun _ _ _ _ _ _ us hl => match us, hl with | [_, _], _ => rfl))
    (case D29 => exact Eo.df_mk KX G (by k_is) (by k_is) (by k_is) (by k_is) (fun _ _ _ _ _ _ us hl => match us, hl with | [_, _, _], _ => rfl))
    (case D30 => exact Eo.df_mk KX G (by k_is) (by k_is) (by k_is) (by k_is) (fun _ _ _ _ _ _ us hl => match us, hl with | [_, _], _ => rfl))
    (case D31 => exact Eo.df_mk KX G (by k_is) (by k_is) (by k_is) (by k_is) (fun _ _ _ _ _ _ us hl => match us, hl with | [_, _], _ => rfl))
    (case D32 => exact Eo.df_mk KX G (by k_is) (by k_is) (by k_is) (by k_is) (fun _ _ _ _ _ _ us hl => match us, hl with | [_], _ => rfl))
    (case D33 => exact Eo.df_mk KX G (by k_is) (by k_is) (by k_is) (by k_is) (fun _ _ _ _ _ _ us hl => match us, hl with | [_], _ => rfl))
    (case D34 => exact Eo.df_mk KX G (by k_is) (by k_is) (by k_is) (by k_is) (fun _ _ _ _ _ _ us hl => match us, hl with | [_], _ => rfl))
    (case D35 => exact Eo.df_mk KX G (by k_is) (by k_is) (by k_is) (by k_is) (fun _ _ _ _ _ _ us hl => match us, hl with | [_, _, _], _ => rfl))
    (case D36 => exact Eo.df_mk KX G (by k_is) (by k_is) (by k_is) (by k_is) (fun _ _ _ _ _ _ us hl => match us, hl with | [_, _], _ => rfl))
    (case D37 => exact Eo.df_mk KX G (by k_is) (by k_is) (by k_is) (by k_is) (fun _ _ _ _ _ _ us hl => match us, hl with | [_, _], _ => rfl))
    (case D38 => exact Eo.df_mk KX G (by k_is) (by k_is) (by k_is) (by k_is) (fun _ _ _ _ _ _ us hl => match us, hl with | [_], _ => rfl))
    (case D39 => exact Eo.df_mk KX G (by k_is) (by k_is) (by k_is) (by k_is) (fun _ _ _ _ _ _ us hl => match us, hl with | [_], _ => rfl))
    (case D40 => exact Eo.df_mk KX G (by k_is) (by k_is) (by k_is) (by k_is) (fun _ _ _ _ _ _ us hl => match us, hl with | [_, _], _ => rfl))
    (case D41 => exact Eo.df_mk KX G (by k_is) (by k_is) (by k_is) (by k_is) (fun _ _ _ _ _ _ us hl => match us, hl with | [_, _], _ => rfl))
    (case D42 => exact Eo.df_mk KX G (by k_is) (by k_is) (by k_is) (by k_is) (fun _ _ _ _ _ _ us hl => match us, hl with | [_, _], _ => rfl))
    (case D43 => exact Eo.df_mk KX G (by k_is) (by k_is) (by k_is) (by k_is) (fun _ _ _ _ _ _ us hl => match us, hl with | [_, _], _ => rfl))
    (case D44 => exact Eo.df_mk KX G (by k_is) (by k_is) (by k_is) (by k_is) (fun _ _ _ _ _ _ us hl => match us, hl with | [_, _], _ => rfl))
    (case D45 => exact Eo.df_mk KX G (by k_is) (by k_is) (by k_is) (by k_is) (fun _ _ _ _ _ _ us hl => match us, hl with | [_, _], _ => rfl))
    (case D46 => exact Eo.df_mk KX G (by k_is) (by k_is) (by k_is) (by k_is) (fun _ _ _ _ _ _ us hl => match us, hl with | [_, _], _ => rfl))
    (case D47 => exact Eo.df_mk KX G (by k_is) (by k_is) (by k_is) (by k_is) (fun _ _ _ _ _ _ us hl => match us, hl with | [_, _], _ => rfl))
    (case D48 => exact Eo.df_mk KX G (by k_is) (by k_is) (by k_is) (by k_is) (fun _ _ _ _ _ _ us hl => match us, hl with | [_], _ => rfl))
    (case D49 => exact Eo.df_mk KX G (by k_is) (by k_is) (by k_is) (by k_is) (fun _ _ _ _ _ _ us hl => match us, hl with | [_], _ => rfl))
    (case D50 => exact Eo.df_mk KX G (by k_is) (by k_is) (by k_is) (by k_is) (fun _ _ _ _ _ _ us hl => match us, hl with | [_], _ => rfl))
    (case D51 => exact Eo.df_mk KX G (by k_is) (by k_is) (by k_is) (by k_is) (fun _ _ _ _ _ _ us hl => match us, hl with | [_], _ => rfl))
    (case D52 => exact Eo.df_mk KX G (by k_is) (by k_is) (by k_is) (by k_is) (fun _ _ _ _ _ _ us hl => match us, hl with | [_], _ => rfl))
    (case D53 => exact Eo.df_mk KX G (by k_is) (by k_is) (by k_is) (by k_is) (fun _ _ _ _ _ _ us hl => match us, hl with | [_], _ => rfl))
    (case D54 => exact Eo.df_mk KX G (by k_is) (by k_is) (by k_is) (by k_is) (fun _ _ _ _ _ _ us hl => match us, hl with | [_], _ => rfl))
    (case D55 => exact Eo.df_mk KX G (by k_is) (by k_is) (by k_is) (by k_is) (fun _ _ _ _ _ _ us hl => match us, hl with | [_, _], _ => rfl))
    (case D56 => exact Eo.df_mk KX G (by k_is) (by k_is) (by k_is) (by k_is) (fun _ _ _ _ _ _ us hl => match us, hl with | [_, _], _ => rfl))
    (case D57 => exact Eo.df_mk KX G (by k_is) (by k_is) (by k_is) (by k_is) (fun _ _ _ _ _ _ us hl => match us, hl with | [_, _], _ => rfl))
    (case D58 => exact Eo.df_mk KX G (by k_is) (by k_is) (by k_is) (by k_is) (fun _ _ _ _ _ _ us hl => match us, hl with | [_, _], _ => rfl))
    (case D59 => exact Eo.df_mk KX G (by k_is) (by k_is) (by k_is) (by k_is) (fun _ _ _ _ _ _ us hl => match us, hl with | [_, _], _ => rfl))
    (case D60 => exact Eo.df_mk KX G (by k_is) (by k_is) (by k_is) (by k_is) (fun _ _ _ _ _ _ us hl => match us, hl with | [_, _], _ => rfl))
    (case D61 => exact Eo.df_mk KX G (by k_is) (by k_is) (by k_is) (by k_is) (fun _ _ _ _ _ _ us hl => match us, hl with | [_, _], _ => rfl))
    (case D62 => exact Eo.df_mk KX G (by k_is) (by k_is) (by k_is) (by k_is) (fun _ _ _ _ _ _ us hl => match us, hl with | [_, _, _], _ => rfl))
    (case D63 => exact Eo.df_mk KX G (by k_is) (by k_is) (by k_is) (by k_is) (fun _ _ _ _ _ _ us hl => match us, hl with | [_, _], _ => rfl))
    (case D64 => exact Eo.df_mk KX G (by k_is) (by k_is) (by k_is) (by k_is) (fun _ _ _ _ _ _ us hl => match us, hl with | [_, _], _ => rfl))
    (case D65 => exact Eo.df_mk KX G (by k_is) (by k_is) (by k_is) (by k_is) (fun _ _ _ _ _ _ us hl => match us, hl with | [_, _, _], _ => rfl))
    (case D66 => exact Eo.df_mk KX G (by k_is) (by k_is) (by k_is) (by k_is) (fun _ _ _ _ _ _ us hl => match us, hl with | [_], _ => rfl))
    (case zabs => exact mg_none_of KX G (by k_is))
    (case zall => exact mg_none_of KX G (by k_is))
    (case zbool => exact mg_none_of KX G (by k_is))
    (case zdict => exact mg_none_of KX G (by k_is))
    (case zenumerate => exact mg_none_of KX G (by k_is))
    (case zint => exact mg_none_of KX G (by k_is))
    (case zisinstance => exact mg_none_of KX G (by k_is))
    (case zlen => exact mg_none_of KX G (by k_is))
    (case zlist => exact mg_none_of KX G (by k_is))
    (case zmax => exact mg_none_of KX G (by k_is))
    (case zrange => exact mg_none_of KX G (by k_is))
    (case zrepr => exact mg_none_of KX G (by k_is))
    (case zreversed => exact mg_none_of KX G (by k_is))
    (case zset => exact mg_none_of KX G (by k_is))
    (case zsorted => exact mg_none_of KX G (by k_is))
    (case zstr => exact mg_none_of KX G (by k_is))
    (case ztuple => exact mg_none_of KX G (by k_is))
    (case zzip => exact mg_none_of KX G (by k_is))
    (case gLETTERS => exact ⟨_, mg_of KX G (by k_is)⟩)
    (case gLONGEST => exact ⟨_, mg_of KX G (by k_is)⟩)
    (case gMOST_STATES => exact ⟨_, mg_of KX G (by k_is)⟩)
    (case gMOST_DEEDS => exact ⟨_, mg_of KX G (by k_is)⟩)
    (case gDEEPEST => exact ⟨_, mg_of KX G (by k_is)⟩)
