import PyProof.Rows.All
import Wide.All
import OpenK.AllK
import Wide.FinOn
import KE.KDictSum
import HandS.ForMost
import HandS.Exc
import HandS.IsInst
import HandS.Strs
import HandS.TupAny
import PySem.Challenge.RW_rungworks_k32_two_nodes
set_option linter.all false
set_option maxHeartbeats 1000000
/-! Plain mathematics: nodes, what they mean, that alike ones are one, how many there are. -/
namespace Rw

abbrev Nd := Nat × Nat × Nat
abbrev Row := Nat → Bool
abbrev Fn := Row → Bool

def f0 : Fn := fun _ => false
def f1 : Fn := fun _ => true
def pick (acc : List Fn) (k : Nd) : Fn := fun r => if r k.1 = true then (acc.getD k.2.2 f0) r else (acc.getD k.2.1 f0) r
def dens (ns : List Nd) : List Fn := ns.foldl (fun acc k => acc ++ [pick acc k]) [f0, f1]
def den (ns : List Nd) (n : Nat) : Fn := (dens ns).getD n f0
/-- a node's place; m behind all names -/
def plc (m : Nat) (ns : List Nd) (n : Nat) : Nat := if n < 2 then m else (ns.getD (n - 2) (m, 0, 0)).1

theorem dens_snoc (ns : List Nd) (k : Nd) : dens (ns ++ [k]) = dens ns ++ [pick (dens ns) k] := by
  unfold dens; rw [List.foldl_append]; rfl
theorem dens_len (ns : List Nd) : (dens ns).length = ns.length + 2 := by
  suffices h : ∀ (l : List Nd) (acc : List Fn), (l.foldl (fun acc k => acc ++ [pick acc k]) acc).length = acc.length + l.length by
    unfold dens; rw [h]; simp only [List.length_cons, List.length_nil]; omega
  intro l
  induction l with
  | nil => intro acc; rfl
  | cons k r ih => intro acc; rw [List.foldl_cons, ih]; simp only [List.length_append, List.length_cons, List.length_nil]; omega
theorem dens_more (ns more : List Nd) : ∃ t, dens (ns ++ more) = dens ns ++ t := by
  suffices h : ∀ (l : List Nd) (acc : List Fn), ∃ t, l.foldl (fun acc k => acc ++ [pick acc k]) acc = acc ++ t by
    unfold dens; rw [List.foldl_append]; exact h _ _
  intro l
  induction l with
  | nil => intro acc; exact ⟨[], (List.append_nil _).symm⟩
  | cons k r ih =>
    intro acc
    obtain ⟨t, e⟩ := ih (acc ++ [pick acc k])
    exact ⟨[pick acc k] ++ t, by rw [List.foldl_cons, e, List.append_assoc]⟩
theorem den_more {ns : List Nd} {n : Nat} (h : n < ns.length + 2) (more : List Nd) : den (ns ++ more) n = den ns n := by
  obtain ⟨t, e⟩ := dens_more ns more
  unfold den
  rw [e, List.getD_eq_getElem?_getD, List.getD_eq_getElem?_getD, List.getElem?_append_left (by rw [dens_len]; exact h)]
theorem plc_more {m : Nat} {ns : List Nd} {n : Nat} (h : n < ns.length + 2) (more : List Nd) : plc m (ns ++ more) n = plc m ns n := by
  unfold plc
  by_cases h2 : n < 2
  · rw [if_pos h2, if_pos h2]
  · rw [if_neg h2, if_neg h2, List.getD_eq_getElem?_getD, List.getD_eq_getElem?_getD, List.getElem?_append_left (by omega)]
theorem den_0 (ns : List Nd) : den ns 0 = f0 := by
  have := den_more (ns := []) (n := 0) (by decide) ns
  rw [List.nil_append] at this; rw [this]; rfl
theorem den_1 (ns : List Nd) : den ns 1 = f1 := by
  have := den_more (ns := []) (n := 1) (by decide) ns
  rw [List.nil_append] at this; rw [this]; rfl
theorem plc_lo {m : Nat} {ns : List Nd} {n : Nat} (h : n < 2) : plc m ns n = m := if_pos h

structure Good (m : Nat) (ns : List Nd) : Prop where
  nd : ns.Nodup
  ok : ∀ (i p l h : Nat), ns[i]? = some (p, l, h) → p < m ∧ l < i + 2 ∧ h < i + 2 ∧ l ≠ h ∧ p < plc m ns l ∧ p < plc m ns h

theorem good_nil (m : Nat) : Good m [] := ⟨List.nodup_nil, fun i p l h e => by simp at e⟩
theorem plc_at {m : Nat} {ns : List Nd} {i p l h : Nat} (e : ns[i]? = some (p, l, h)) : plc m ns (i + 2) = p := by
  unfold plc
  rw [if_neg (by omega), List.getD_eq_getElem?_getD, show i + 2 - 2 = i by omega, e]; rfl
theorem den_raw {ns : List Nd} {i : Nat} {k : Nd} (e : ns[i]? = some k) (h1 : k.2.1 < i + 2) (h2 : k.2.2 < i + 2) (r : Row) : den ns (i + 2) r = if r k.1 = true then den ns k.2.2 r else den ns k.2.1 r := by
  obtain ⟨hi, ek⟩ := List.getElem?_eq_some_iff.mp e
  have es : ns = ns.take i ++ ([k] ++ ns.drop (i + 1)) := by
    have : ns = ns.take i ++ ns.drop i := (List.take_append_drop i ns).symm
    rw [List.drop_eq_getElem_cons hi, ek] at this
    exact this
  have hl : (ns.take i).length = i := by rw [List.length_take]; omega
  have low : ∀ n, n < i + 2 → den ns n = den (ns.take i) n := fun n hn => by
    have := den_more (ns := ns.take i) (n := n) (by rw [hl]; exact hn) (([k] ++ ns.drop (i + 1)))
    rw [← es] at this; exact this
  have top : den ns (i + 2) = pick (dens (ns.take i)) k := by
    have q := den_more (ns := ns.take i ++ [k]) (n := i + 2) (by rw [List.length_append, hl, List.length_singleton]; omega) (ns.drop (i + 1))
    rw [List.append_assoc, ← es] at q
    rw [q]
    unfold den
    rw [dens_snoc, List.getD_eq_getElem?_getD, List.getElem?_append_right (by rw [dens_len, hl]; omega), dens_len, hl]
    simp
  rw [top, low _ h1, low _ h2]
  rfl
theorem den_at {m : Nat} {ns : List Nd} (g : Good m ns) {i p l h : Nat} (e : ns[i]? = some (p, l, h)) (r : Row) : den ns (i + 2) r = if r p = true then den ns h r else den ns l r := by
  obtain ⟨_, h1, h2, _⟩ := g.ok i p l h e
  exact den_raw e h1 h2 r
theorem node_cases {ns : List Nd} {n : Nat} (h : n < ns.length + 2) : n = 0 ∨ n = 1 ∨ ∃ i p l hh, n = i + 2 ∧ ns[i]? = some (p, l, hh) := by
  by_cases h0 : n = 0
  · exact .inl h0
  by_cases h1 : n = 1
  · exact .inr (.inl h1)
  refine .inr (.inr ⟨n - 2, (ns[n - 2]'(by omega)).1, (ns[n - 2]'(by omega)).2.1, (ns[n - 2]'(by omega)).2.2, by omega, ?_⟩)
  rw [List.getElem?_eq_getElem (by omega)]
theorem plc_le {m : Nat} {ns : List Nd} (g : Good m ns) {n : Nat} (h : n < ns.length + 2) : plc m ns n ≤ m := by
  rcases node_cases h with e | e | ⟨i, p, l, hh, e, en⟩
  · rw [plc_lo (by omega)]; exact Nat.le_refl _
  · rw [plc_lo (by omega)]; exact Nat.le_refl _
  · rw [e, plc_at en]; exact Nat.le_of_lt (g.ok i p l hh en).1
/-- a node leans on the places from its own on alone -/
theorem den_supp {m : Nat} {ns : List Nd} (g : Good m ns) : ∀ (N n : Nat), n < N → n < ns.length + 2 → ∀ r r' : Row, (∀ j, plc m ns n ≤ j → j < m → r j = r' j) → den ns n r = den ns n r'
  | 0, _, h, _, _, _, _ => absurd h (Nat.not_lt_zero _)
  | N + 1, n, hN, hn, r, r', hr => by
    rcases node_cases hn with e | e | ⟨i, p, l, hh, e, en⟩
    · rw [e, den_0]; rfl
    · rw [e, den_1]; rfl
    · obtain ⟨pm, li, hi, _, pl, ph⟩ := g.ok i p l hh en
      have ep : plc m ns n = p := by rw [e, plc_at en]
      have hil := (List.getElem?_eq_some_iff.mp en).1
      rw [ep] at hr
      rw [e, den_at g en, den_at g en, hr p (Nat.le_refl _) pm,
        den_supp g N l (by omega) (by omega) r r' fun j h1 h2 => hr j (by omega) h2,
        den_supp g N hh (by omega) (by omega) r r' fun j h1 h2 => hr j (by omega) h2]
def setR (r : Row) (p : Nat) (b : Bool) : Row := fun j => if j = p then b else r j
theorem den_set {m : Nat} {ns : List Nd} (g : Good m ns) {n p : Nat} (hn : n < ns.length + 2) (hp : p < plc m ns n) (r : Row) (b : Bool) : den ns n (setR r p b) = den ns n r :=
  den_supp g (n + 1) n (Nat.lt_succ_self _) hn _ _ fun j h1 _ => by
    unfold setR; rw [if_neg (by omega)]
theorem den_cut {m : Nat} {ns : List Nd} (g : Good m ns) {i p l h : Nat} (e : ns[i]? = some (p, l, h)) (r : Row) (b : Bool) : den ns (i + 2) (setR r p b) = if b = true then den ns h r else den ns l r := by
  obtain ⟨pm, li, hi, _, pl, ph⟩ := g.ok i p l h e
  have hil := (List.getElem?_eq_some_iff.mp e).1
  rw [den_at g e, den_set g (by omega) pl, den_set g (by omega) ph]
  unfold setR
  rw [if_pos rfl]
theorem setR_self (r : Row) (p : Nat) : setR r p (r p) = r := by
  funext j; unfold setR; by_cases h : j = p
  · rw [if_pos h, h]
  · rw [if_neg h]
/-- two nodes that mean the same are one -/
theorem canon {m : Nat} {ns : List Nd} (g : Good m ns) : ∀ (N a b : Nat), a < N → b < N → a < ns.length + 2 → b < ns.length + 2 → (∀ r, den ns a r = den ns b r) → a = b
  | 0, _, _, h, _, _, _, _ => absurd h (Nat.not_lt_zero _)
  | N + 1, a, b, ha, hb, la, lb, same => by
    have one : ∀ (x y i p l h : Nat), x < N + 1 → x < ns.length + 2 → y < ns.length + 2 → x = i + 2 → ns[i]? = some (p, l, h) → p < plc m ns y → (∀ r, den ns x r = den ns y r) → False := by
      intro x y i p l h hx lx ly ex en py sm
      obtain ⟨pm, li, hi, ne, pl, ph⟩ := g.ok i p l h en
      refine ne (canon g N l h (by omega) (by omega) (by omega) (by omega) fun r => ?_)
      have h1 := sm (setR r p false)
      have h2 := sm (setR r p true)
      rw [den_set g ly py, ex, den_cut g en] at h1 h2
      simp only [Bool.false_eq_true, if_false, if_true] at h1 h2
      rw [h1, h2]
    rcases node_cases la with e | e | ⟨i, p, l, hh, e, en⟩
    · rcases node_cases lb with e' | e' | ⟨i', p', l', hh', e', en'⟩
      · omega
      · have := same (fun _ => false)
        rw [e, e', den_0, den_1] at this
        exact absurd this (by decide)
      · exact (one b a i' p' l' hh' hb lb la e' en' (by rw [plc_lo (by omega)]; exact (g.ok _ _ _ _ en').1) fun r => (same r).symm).elim
    · rcases node_cases lb with e' | e' | ⟨i', p', l', hh', e', en'⟩
      · have := same (fun _ => false)
        rw [e, e', den_0, den_1] at this
        exact absurd this (by decide)
      · omega
      · exact (one b a i' p' l' hh' hb lb la e' en' (by rw [plc_lo (by omega)]; exact (g.ok _ _ _ _ en').1) fun r => (same r).symm).elim
    · rcases node_cases lb with e' | e' | ⟨i', p', l', hh', e', en'⟩
      · exact (one a b i p l hh ha la lb e en (by rw [plc_lo (by omega)]; exact (g.ok _ _ _ _ en).1) same).elim
      · exact (one a b i p l hh ha la lb e en (by rw [plc_lo (by omega)]; exact (g.ok _ _ _ _ en).1) same).elim
      · obtain ⟨pm, li, hi, ne, pl, ph⟩ := g.ok i p l hh en
        obtain ⟨pm', li', hi', ne', pl', ph'⟩ := g.ok i' p' l' hh' en'
        have pa : plc m ns a = p := by rw [e, plc_at en]
        have pb : plc m ns b = p' := by rw [e', plc_at en']
        by_cases h1 : p < p'
        · exact (one a b i p l hh ha la lb e en (by rw [pb]; exact h1) same).elim
        by_cases h2 : p' < p
        · exact (one b a i' p' l' hh' hb lb la e' en' (by rw [pa]; exact h2) fun r => (same r).symm).elim
        have ep : p = p' := by omega
        subst ep
        have el : l = l' := canon g N l l' (by omega) (by omega) (by omega) (by omega) fun r => by
          have q := same (setR r p false)
          rw [e, e', den_cut g en, den_cut g en'] at q
          simpa using q
        have eh : hh = hh' := canon g N hh hh' (by omega) (by omega) (by omega) (by omega) fun r => by
          have q := same (setR r p true)
          rw [e, e', den_cut g en, den_cut g en'] at q
          simpa using q
        subst el eh
        obtain ⟨hi1, e1⟩ := List.getElem?_eq_some_iff.mp en
        obtain ⟨hi2, e2⟩ := List.getElem?_eq_some_iff.mp en'
        have : i = i' := (List.getElem_inj g.nd).mp (e1.trans e2.symm)
        omega
theorem canon' {m : Nat} {ns : List Nd} (g : Good m ns) {a b : Nat} (la : a < ns.length + 2) (lb : b < ns.length + 2) (h : ∀ r, den ns a r = den ns b r) : a = b :=
  canon g (a + b + 1) a b (by omega) (by omega) la lb h

/-! ### a new node -/
theorem good_snoc {m : Nat} {ns : List Nd} (g : Good m ns) {p l h : Nat} (hn : (p, l, h) ∉ ns) (pm : p < m) (ll : l < ns.length + 2) (lh : h < ns.length + 2) (ne : l ≠ h) (pl : p < plc m ns l) (ph : p < plc m ns h) : Good m (ns ++ [(p, l, h)]) := by
  refine ⟨?_, fun i p' l' h' e => ?_⟩
  · rw [List.nodup_append]
    refine ⟨g.nd, by simp, fun a ha b hb => ?_⟩
    rw [List.mem_singleton.mp hb]
    intro z; rw [z] at ha; exact hn ha
  · by_cases hi : i < ns.length
    · rw [List.getElem?_append_left hi] at e
      obtain ⟨h1, h2, h3, h4, h5, h6⟩ := g.ok i p' l' h' e
      exact ⟨h1, h2, h3, h4, by rw [plc_more (by omega)]; exact h5, by rw [plc_more (by omega)]; exact h6⟩
    · rw [List.getElem?_append_right (by omega)] at e
      have hi' : i = ns.length := by
        have := (List.getElem?_eq_some_iff.mp e).1
        rw [List.length_singleton] at this; omega
      subst hi'
      rw [Nat.sub_self] at e
      have e2 : (p, l, h) = (p', l', h') := Option.some.inj e
      injection e2 with a b; injection b with b c
      subst a b c
      exact ⟨pm, ll, lh, ne, by rw [plc_more (by omega)]; exact pl, by rw [plc_more (by omega)]; exact ph⟩
theorem at_snoc (ns : List Nd) (k : Nd) : (ns ++ [k])[ns.length]? = some k := by
  rw [List.getElem?_append_right (Nat.le_refl _), Nat.sub_self]; rfl

/-! ### how many -/
theorem nodup_lt : ∀ (n : Nat) (l : List Nat), l.Nodup → (∀ x ∈ l, x < n) → l.length ≤ n
  | 0, l, _, h => by
    cases l with
    | nil => exact Nat.le_refl _
    | cons a r => exact absurd (h a List.mem_cons_self) (Nat.not_lt_zero _)
  | n + 1, l, nd, h => by
    have q : (l.erase n).length ≤ n := nodup_lt n (l.erase n) (nd.erase n) fun x hx => by
      have h1 := h x (List.mem_of_mem_erase hx)
      have h2 : x ≠ n := ((List.Nodup.mem_erase_iff nd).mp hx).1
      omega
    by_cases hm : n ∈ l
    · rw [List.length_erase_of_mem hm] at q
      have : 0 < l.length := List.length_pos_of_mem hm
      omega
    · rw [List.erase_of_not_mem hm] at q; omega
/-- the eight rows of the last three places -/
def rowOf (m t : Nat) : Row := fun j => Nat.testBit t (m - 1 - j)
def code8 (b : Nat → Bool) : Nat := (b 0).toNat + 2 * (b 1).toNat + 4 * (b 2).toNat + 8 * (b 3).toNat + 16 * (b 4).toNat + 32 * (b 5).toNat + 64 * (b 6).toNat + 128 * (b 7).toNat
theorem code8_lt (b : Nat → Bool) : code8 b < 256 := by
  unfold code8
  have h : ∀ i, (b i).toNat ≤ 1 := fun i => by cases b i <;> decide
  have := h 0; have := h 1; have := h 2; have := h 3; have := h 4; have := h 5; have := h 6; have := h 7
  omega
theorem code8_inj {b c : Nat → Bool} (h : code8 b = code8 c) : ∀ i, i < 8 → b i = c i := by
  unfold code8 at h
  have hb : ∀ i, (b i).toNat ≤ 1 := fun i => by cases b i <;> decide
  have hc : ∀ i, (c i).toNat ≤ 1 := fun i => by cases c i <;> decide
  have e : ∀ i, (b i).toNat = (c i).toNat → b i = c i := fun i h => by cases q : b i <;> cases q' : c i <;> rw [q, q'] at h <;> first | rfl | exact absurd h (by decide)
  have := hb 0; have := hb 1; have := hb 2; have := hb 3; have := hb 4; have := hb 5; have := hb 6; have := hb 7
  have := hc 0; have := hc 1; have := hc 2; have := hc 3; have := hc 4; have := hc 5; have := hc 6; have := hc 7
  intro i hi
  apply e
  have : i = 0 ∨ i = 1 ∨ i = 2 ∨ i = 3 ∨ i = 4 ∨ i = 5 ∨ i = 6 ∨ i = 7 := by omega
  rcases this with rfl | rfl | rfl | rfl | rfl | rfl | rfl | rfl <;> omega
theorem row_near (m : Nat) (r : Row) : ∃ t, t < 8 ∧ ∀ j, m ≤ j + 3 → j < m → r j = rowOf m t j := by
  refine ⟨(r (m - 1)).toNat + 2 * (r (m - 2)).toNat + 4 * (r (m - 3)).toNat, ?_, ?_⟩
  · have h : ∀ i, (r i).toNat ≤ 1 := fun i => by cases r i <;> decide
    have := h (m - 1); have := h (m - 2); have := h (m - 3)
    omega
  · intro j h1 h2
    unfold rowOf
    have c : (m - 1 - j = 0 ∧ j = m - 1) ∨ (m - 1 - j = 1 ∧ j = m - 2) ∨ (m - 1 - j = 2 ∧ j = m - 3) := by omega
    rcases c with ⟨a, b⟩ | ⟨a, b⟩ | ⟨a, b⟩ <;> rw [a, b] <;> cases r (m - 1) <;> cases r (m - 2) <;> cases r (m - 3) <;> rfl
/-- the nodes above the last three places -/
def cnt (m : Nat) (ns : List Nd) : Nat := ns.countP fun k => decide (k.1 + 3 < m)
theorem cnt_snoc (m : Nat) (ns : List Nd) (k : Nd) : cnt m (ns ++ [k]) = cnt m ns + if k.1 + 3 < m then 1 else 0 := by
  unfold cnt
  rw [List.countP_append, List.countP_singleton]
  by_cases h : k.1 + 3 < m
  · rw [if_pos h, if_pos (decide_eq_true h)]
  · rw [if_neg h, if_neg (by simpa using h)]
theorem nodup_map_on {α β : Type} (f : α → β) : ∀ (l : List α), l.Nodup → (∀ x ∈ l, ∀ y ∈ l, f x = f y → x = y) → (l.map f).Nodup
  | [], _, _ => List.nodup_nil
  | a :: r, nd, h => by
    obtain ⟨h1, h2⟩ := List.nodup_cons.mp nd
    rw [List.map_cons, List.nodup_cons]
    refine ⟨fun hm => ?_, nodup_map_on f r h2 fun x hx y hy => h x (List.mem_cons_of_mem _ hx) y (List.mem_cons_of_mem _ hy)⟩
    obtain ⟨b, hb, e⟩ := List.mem_map.mp hm
    rw [h b (List.mem_cons_of_mem _ hb) a List.mem_cons_self e] at hb
    exact h1 hb
theorem len_le {m : Nat} {ns : List Nd} (g : Good m ns) : ns.length ≤ cnt m ns + 256 := by
  have e := List.length_eq_countP_add_countP (fun k : Nd => decide (k.1 + 3 < m)) (l := ns)
  have q : ns.countP (fun k => !decide (k.1 + 3 < m)) ≤ 256 := by
    rw [List.countP_eq_length_filter]
    let cd : Nd → Nat := fun k => code8 fun t => if rowOf m t k.1 = true then den ns k.2.2 (rowOf m t) else den ns k.2.1 (rowOf m t)
    have hnd : ((ns.filter fun k => !decide (k.1 + 3 < m)).map cd).Nodup := by
      refine nodup_map_on cd _ (g.nd.filter _) fun x hx y hy exy => ?_
      obtain ⟨hx1, hx2⟩ := List.mem_filter.mp hx
      obtain ⟨hy1, hy2⟩ := List.mem_filter.mp hy
      have hx3 : ¬ x.1 + 3 < m := by simpa using hx2
      have hy3 : ¬ y.1 + 3 < m := by simpa using hy2
      obtain ⟨i, ei⟩ := List.mem_iff_getElem?.mp hx1
      obtain ⟨j, ej⟩ := List.mem_iff_getElem?.mp hy1
      have li := (List.getElem?_eq_some_iff.mp ei).1
      have lj := (List.getElem?_eq_some_iff.mp ej).1
      have same := code8_inj exy
      have : i + 2 = j + 2 := canon' g (by omega) (by omega) fun r => by
        obtain ⟨t, ht, near⟩ := row_near m r
        have a1 : den ns (i + 2) r = den ns (i + 2) (rowOf m t) := den_supp g (i + 3) (i + 2) (by omega) (by omega) _ _ fun j' h1 h2 => near j' (by rw [plc_at (p := x.1) (l := x.2.1) (h := x.2.2) ei] at h1; omega) h2
        have a2 : den ns (j + 2) r = den ns (j + 2) (rowOf m t) := den_supp g (j + 3) (j + 2) (by omega) (by omega) _ _ fun j' h1 h2 => near j' (by rw [plc_at (p := y.1) (l := y.2.1) (h := y.2.2) ej] at h1; omega) h2
        rw [a1, a2, den_at g (p := x.1) (l := x.2.1) (h := x.2.2) ei, den_at g (p := y.1) (l := y.2.1) (h := y.2.2) ej]
        exact same t ht
      have e2 : i = j := by omega
      rw [e2, ej] at ei
      exact (Option.some.inj ei).symm
    have := nodup_lt 256 _ hnd fun z hz => by
      obtain ⟨k, _, ek⟩ := List.mem_map.mp hz
      rw [← ek]; exact code8_lt _
    rw [List.length_map] at this
    exact this
  have e2 : ns.countP (fun k => decide (¬ decide (k.1 + 3 < m) = true)) = ns.countP (fun k => !decide (k.1 + 3 < m)) := by
    congr 1; funext k; by_cases h : k.1 + 3 < m <;> simp [h]
  unfold cnt
  rw [e2] at e
  omega
/-- what an operation may make above the last three places, d places being left -/
def T (d : Nat) : Nat := 2 ^ (d - 3) - 1
def U (d : Nat) : Nat := 2 ^ d - 1
theorem two_pos (n : Nat) : 0 < 2 ^ n := Nat.pow_pos (by decide)
theorem U_step (d : Nat) : U (d + 1) = 1 + 2 * U d := by
  unfold U; rw [Nat.pow_succ]; have := two_pos d; omega
theorem T_step (d : Nat) : 2 * T d ≤ T (d + 1) ∧ (3 ≤ d → T (d + 1) = 1 + 2 * T d) := by
  unfold T
  by_cases h : 3 ≤ d
  · have e : d + 1 - 3 = (d - 3) + 1 := by omega
    rw [e, Nat.pow_succ]; have := two_pos (d - 3); omega
  · have e : d - 3 = 0 := by omega
    rw [e]; exact ⟨by simp, fun z => absurd z h⟩
theorem T_mono {a b : Nat} (h : a ≤ b) : T a ≤ T b := by
  unfold T
  have := Nat.pow_le_pow_right (n := 2) (by decide) (show a - 3 ≤ b - 3 by omega)
  omega
end Rw

set_option linter.all false
set_option maxHeartbeats 1000000
/-! Plain mathematics: trees of conditions. -/
namespace Rw
inductive Tl where
  | fx (b : Bool)
  | ct (i : Nat)
  | nt (t : Tl)
  | gr (k : Bool) (ts : List Tl)
mutual
def Tl.ev (r : Row) : Tl → Bool
  | .fx b => b
  | .ct i => r i
  | .nt t => !(Tl.ev r t)
  | .gr k ts => if k = true then evAll r ts else evAny r ts
def evAll (r : Row) : List Tl → Bool
  | [] => true
  | t :: ts => Tl.ev r t && evAll r ts
def evAny (r : Row) : List Tl → Bool
  | [] => false
  | t :: ts => Tl.ev r t || evAny r ts
end
mutual
def Tl.size : Tl → Nat
  | .fx _ => 1
  | .ct _ => 1
  | .nt t => 1 + t.size
  | .gr _ ts => 1 + sizes ts
def sizes : List Tl → Nat
  | [] => 0
  | t :: ts => t.size + sizes ts
end
mutual
def Tl.depth : Tl → Nat
  | .fx _ => 1
  | .ct _ => 1
  | .nt t => 1 + t.depth
  | .gr _ ts => 1 + depths ts
def depths : List Tl → Nat
  | [] => 0
  | t :: ts => max t.depth (depths ts)
end
mutual
def Tl.ops : Tl → Nat
  | .fx _ => 0
  | .ct _ => 1
  | .nt t => t.ops + 1
  | .gr _ ts => opss ts
def opss : List Tl → Nat
  | [] => 0
  | t :: ts => t.ops + 1 + opss ts
end
mutual
def Tl.wf (m : Nat) : Tl → Prop
  | .fx _ => True
  | .ct i => i < m
  | .nt t => Tl.wf m t
  | .gr _ ts => 2 ≤ ts.length ∧ wfs m ts
def wfs (m : Nat) : List Tl → Prop
  | [] => True
  | t :: ts => Tl.wf m t ∧ wfs m ts
end
def Tl.kids : Tl → List Tl
  | .fx _ => []
  | .ct _ => []
  | .nt t => [t]
  | .gr _ ts => ts
def Tl.single : Tl → Bool
  | .fx _ => true
  | .ct _ => true
  | _ => false

theorem evAll_app (r : Row) : ∀ (a b : List Tl), evAll r (a ++ b) = (evAll r a && evAll r b)
  | [], b => by rw [List.nil_append]; show _ = (true && _); rw [Bool.true_and]
  | t :: a, b => by rw [List.cons_append]; show (_ && evAll r (a ++ b)) = ((_ && evAll r a) && _); rw [evAll_app r a b, Bool.and_assoc]
theorem evAny_app (r : Row) : ∀ (a b : List Tl), evAny r (a ++ b) = (evAny r a || evAny r b)
  | [], b => by rw [List.nil_append]; show _ = (false || _); rw [Bool.false_or]
  | t :: a, b => by rw [List.cons_append]; show (_ || evAny r (a ++ b)) = ((_ || evAny r a) || _); rw [evAny_app r a b, Bool.or_assoc]
theorem evAll_snoc (r : Row) (a : List Tl) (t : Tl) : evAll r (a ++ [t]) = (evAll r a && t.ev r) := by
  rw [evAll_app]; show (_ && (t.ev r && true)) = _; rw [Bool.and_true]
theorem evAny_snoc (r : Row) (a : List Tl) (t : Tl) : evAny r (a ++ [t]) = (evAny r a || t.ev r) := by
  rw [evAny_app]; show (_ || (t.ev r || false)) = _; rw [Bool.or_false]
theorem sizes_app : ∀ (a b : List Tl), sizes (a ++ b) = sizes a + sizes b
  | [], b => by rw [List.nil_append]; show _ = 0 + _; omega
  | t :: a, b => by rw [List.cons_append]; show t.size + sizes (a ++ b) = t.size + sizes a + _; rw [sizes_app a b]; omega
theorem opss_app : ∀ (a b : List Tl), opss (a ++ b) = opss a + opss b
  | [], b => by rw [List.nil_append]; show _ = 0 + _; omega
  | t :: a, b => by rw [List.cons_append]; show t.ops + 1 + opss (a ++ b) = t.ops + 1 + opss a + _; rw [opss_app a b]; omega
theorem depths_app : ∀ (a b : List Tl), depths (a ++ b) = max (depths a) (depths b)
  | [], b => by rw [List.nil_append]; show _ = max 0 _; omega
  | t :: a, b => by rw [List.cons_append]; show max t.depth (depths (a ++ b)) = max (max t.depth (depths a)) _; rw [depths_app a b]; omega
theorem wfs_app (m : Nat) : ∀ (a b : List Tl), wfs m (a ++ b) ↔ wfs m a ∧ wfs m b
  | [], b => by rw [List.nil_append]; show _ ↔ True ∧ _; simp
  | t :: a, b => by
    rw [List.cons_append]
    show (t.wf m ∧ wfs m (a ++ b)) ↔ ((t.wf m ∧ wfs m a) ∧ _)
    rw [wfs_app m a b, and_assoc]
theorem sizes_sum (ts : List Tl) : ((ts.map fun t => (t.size : Int)).sum : Int) = (sizes ts : Int) := by
  induction ts with
  | nil => rfl
  | cons t r ih => rw [List.map_cons, List.sum_cons, ih]; show _ = ((t.size + sizes r : Nat) : Int); omega
theorem depths_mem : ∀ {ts : List Tl} {t : Tl}, t ∈ ts → t.depth ≤ depths ts
  | a :: r, t, h => by
    show _ ≤ max a.depth (depths r)
    rcases List.mem_cons.mp h with rfl | h
    · omega
    · have := depths_mem h; omega
theorem sizes_mem : ∀ {ts : List Tl} {t : Tl}, t ∈ ts → t.size ≤ sizes ts
  | a :: r, t, h => by
    show _ ≤ a.size + sizes r
    rcases List.mem_cons.mp h with rfl | h
    · omega
    · have := sizes_mem h; omega
theorem wfs_mem {m : Nat} : ∀ {ts : List Tl} {t : Tl}, wfs m ts → t ∈ ts → t.wf m
  | a :: r, t, w, h => by
    obtain ⟨w1, w2⟩ : a.wf m ∧ wfs m r := w
    rcases List.mem_cons.mp h with rfl | h
    · exact w1
    · exact wfs_mem w2 h
theorem depths_max {ts : List Tl} {x : Int} (h1 : x ∈ (0 : Int) :: ts.map fun t => (t.depth : Int)) (h2 : ∀ y, y ∈ (0 : Int) :: (ts.map fun t => (t.depth : Int)) → y ≤ x) : x = (depths ts : Int) := by
  have up : ∀ (l : List Tl), (∀ t ∈ l, (t.depth : Int) ≤ x) → 0 ≤ x → (depths l : Int) ≤ x := by
    intro l
    induction l with
    | nil => intro _ h; exact h
    | cons t r ih =>
      intro h h0
      have a := h t List.mem_cons_self
      have b := ih (fun u hu => h u (List.mem_cons_of_mem _ hu)) h0
      show ((max t.depth (depths r) : Nat) : Int) ≤ x
      omega
  have a := up ts (fun t ht => h2 _ (List.mem_cons_of_mem _ (List.mem_map.mpr ⟨t, ht, rfl⟩))) (h2 0 List.mem_cons_self)
  rcases List.mem_cons.mp h1 with e | e
  · omega
  · obtain ⟨t, ht, e⟩ := List.mem_map.mp e
    have := depths_mem ht
    omega
mutual
theorem Tl.depth_le : ∀ t : Tl, t.depth ≤ t.size
  | .fx _ => Nat.le_refl _
  | .ct _ => Nat.le_refl _
  | .nt t => by show 1 + t.depth ≤ 1 + t.size; have := Tl.depth_le t; omega
  | .gr _ ts => by show 1 + depths ts ≤ 1 + sizes ts; have := depths_le ts; omega
theorem depths_le : ∀ ts : List Tl, depths ts ≤ sizes ts
  | [] => Nat.le_refl _
  | t :: r => by show max t.depth (depths r) ≤ t.size + sizes r; have := Tl.depth_le t; have := depths_le r; omega
end
mutual
theorem Tl.ops_le : ∀ t : Tl, t.ops + 1 ≤ 2 * t.size
  | .fx _ => by show 0 + 1 ≤ 2 * 1; omega
  | .ct _ => by show 1 + 1 ≤ 2 * 1; omega
  | .nt t => by show t.ops + 1 + 1 ≤ 2 * (1 + t.size); have := Tl.ops_le t; omega
  | .gr _ ts => by show opss ts + 1 ≤ 2 * (1 + sizes ts); have := opss_le ts; omega
theorem opss_le : ∀ ts : List Tl, opss ts ≤ 2 * sizes ts
  | [] => Nat.le_refl _
  | t :: r => by show t.ops + 1 + opss r ≤ 2 * (t.size + sizes r); have := Tl.ops_le t; have := opss_le r; omega
end
theorem Tl.size_pos : ∀ t : Tl, 0 < t.size
  | .fx _ => by show 0 < 1; omega
  | .ct _ => by show 0 < 1; omega
  | .nt t => by show 0 < 1 + t.size; omega
  | .gr _ ts => by show 0 < 1 + sizes ts; omega
theorem Tl.depth_pos : ∀ t : Tl, 0 < t.depth
  | .fx _ => by show 0 < 1; omega
  | .ct _ => by show 0 < 1; omega
  | .nt t => by show 0 < 1 + t.depth; omega
  | .gr _ ts => by show 0 < 1 + depths ts; omega
theorem kids_size (t : Tl) : t.size = 1 + sizes t.kids := by
  cases t with
  | fx b => rfl
  | ct i => rfl
  | nt t => show 1 + t.size = 1 + (t.size + 0); omega
  | gr k ts => rfl
theorem kids_depth (t : Tl) : t.depth = 1 + depths t.kids := by
  cases t with
  | fx b => rfl
  | ct i => rfl
  | nt t => show 1 + t.depth = 1 + max t.depth 0; omega
  | gr k ts => rfl
theorem kids_wf {m : Nat} {t : Tl} (w : t.wf m) : wfs m t.kids := by
  cases t with
  | fx b => exact True.intro
  | ct i => exact True.intro
  | nt t => exact ⟨w, True.intro⟩
  | gr k ts => exact w.2
theorem len_sizes : ∀ ts : List Tl, ts.length ≤ sizes ts
  | [] => Nat.le_refl _
  | t :: r => by show r.length + 1 ≤ t.size + sizes r; have := len_sizes r; have := t.size_pos; omega
theorem kids_len (t : Tl) : t.kids.length < t.size := by
  have := len_sizes t.kids; have := kids_size t; omega
/-- the work that is left at a tree of which k children are done (top), or k are done and one is being done -/
def leftT (t : Tl) (k : Nat) : Nat := 1 + 2 * sizes (t.kids.drop k)
theorem leftT_step {t c : Tl} {k : Nat} (h : t.kids[k]? = some c) : leftT t k = leftT t (k + 1) + 2 * c.size := by
  unfold leftT
  obtain ⟨hk, e⟩ := List.getElem?_eq_some_iff.mp h
  rw [List.drop_eq_getElem_cons hk, e]
  show 1 + 2 * (c.size + sizes (t.kids.drop (k + 1))) = _
  omega
theorem leftT_zero (t : Tl) : leftT t 0 + 1 = 2 * t.size := by
  unfold leftT; rw [List.drop_zero, kids_size t]; omega
end Rw

set_option Elab.async false
set_option linter.all false
set_option maxRecDepth 100000
set_option maxHeartbeats 4000000
/-! Rules that the layer lacks: xs != [] whatever stands in xs; d.keys() and tuple of it; one of several readings. -/
namespace Rw
open PySem PySem.Spec PyProof.Rows L2
section
variable {X : Cx}
/-- one of several readings of an expression -/
def tExs {ι : Type} (t : ι → TE) : TE := fun σ H Q => ∃ i, t i σ H Q
theorem pe_exs {ι : Type} {e : Expr} {t : ι → TE} (h : ∀ i, PE X e (t i)) : PE X e (tExs t) :=
  ⟨fun pins s σ H Q I ⟨i, q⟩ => (h i).run pins s σ H Q I q⟩
/-- .. of a statement -/
def sExs {ι : Type} (t : ι → TS) : TS := fun D σ H => ∃ i, t i D σ H
theorem ps_exs {ι : Type} {e : Stmt} {t : ι → TS} (h : ∀ i, PS X e (t i)) : PS X e (sExs t) :=
  ⟨fun pins s σ H D I ⟨i, q⟩ => (h i).run pins s σ H D I q⟩

def rNeNil (K : PySem.W.Frag) : R2 := fun x y H Q => ∃ a b xs, x = .ref a ∧ y = .ref b ∧ SqL K H a xs ∧ SqL K H b [] ∧ Q (.bl (!xs.isEmpty)) H
theorem op_neNil (hu : X.A.units < cLine) : OpR X (compareOp .NotEq) (rNeNil X.K) := by
  intro pins s σ H x y v u Q I rx ry ⟨a, b, xs, ex, ey, hx, hy, q⟩
  subst ex ey
  cases rx; cases ry
  obtain ⟨ix, vx, px, _⟩ := I.list hx
  obtain ⟨iy, vy, py, _⟩ := I.list hy
  have ey : iy = [] := by cases vy; rfl
  subst ey
  cases vx with
  | nil => exact PySem.EqBoolInt.of_rcne (SeqAt.RcNeAt.lists (e := fun _ => true) px.isList py.isList rfl hu fun j h1 h2 => absurd h1 (by simp)) ⟨.bl _, H, I, rfl, q⟩
  | cons r t => exact PySem.EqBoolInt.of_rcne (SeqAt.RcNeAt.lists_lengths px.isList py.isList (by simp) hu) ⟨.bl _, H, I, rfl, q⟩

/-- a view of a dict's keys, at v -/
def kview (v d : Addr) : HO := .ext fun h => PySem.W.KdlKeysView h v d
theorem kview_ok {P : Program} {w : World} {H : Hp} {h : Heap} {v d : Addr} (e : PySem.W.KdlKeysView h v d) : ObjOk P w H h v (kview v d) := by
  obtain ⟨o, e1, e2⟩ := id e
  exact ⟨e, ⟨o, e1⟩, fun h1 h2 ⟨o', e3, e4⟩ k => ⟨o', k _ e3, e4⟩⟩
theorem mt_keys : MtR X "dict.keys" (fun x xs H Q => ∃ d kvs, x = .ref d ∧ xs = [] ∧ H d = some (.dK kvs) ∧ ∀ v, H v = none → Q (.ref v) (upd H v (kview v d))) := by
  intro pins s σ H x xs v us Q I rx rs ⟨d, kvs, ex, es, hd, q⟩
  subst ex es
  cases rx; cases rs
  obtain ⟨_, lo, vs, _, hdo⟩ := I.hok d _ hd
  refine call_meetsIn PySem.F.slot_dict_keys hdo.typeIs PySem.F.entry_dict_keys (PySem.F.args_dict_keys_1 _) (PySem.W.kdl_meets_keys (mixKind X.prog X.w) d lo) ⟨⟨vs, hdo⟩, ?_⟩
  have nf : H s.heap.objs.size = none := I.hok.fresh (Nat.le_refl _)
  exact ⟨.ref s.heap.objs.size, _, I.laid (t' := s.toks) (fun b o e => Heap.get?_push_of_some _ e) (Nat.le_refl _) (kview_ok ⟨_, Heap.get?_push_size _ rfl, rfl, rfl⟩), rfl, q _ nf⟩
theorem key_rel {k : Key} {v : Value} (h : keyIs k v = true) : RelV (kV k) v := by
  rcases keyIs_shape h with ⟨i, t, rfl, rfl⟩ | ⟨x, t, rfl, rfl⟩
  · exact ⟨t, rfl⟩
  · exact ⟨t, rfl⟩
theorem vals_by : ∀ {xs : List V} {us : List Value}, xs.length = us.length → (∀ (j : Nat) x u, xs[j]? = some x → us[j]? = some u → RelV x u) → Vals xs us
  | [], [], _, _ => .nil
  | [], _ :: _, h, _ => by cases h
  | _ :: _, [], h, _ => by cases h
  | x :: xs, u :: us, h, k => .cons (k 0 x u rfl rfl) (vals_by (Nat.succ.inj h) fun j => k (j + 1))
def rTupKeys : List V → Hp → VK → Prop := fun xs H Q => ∃ v d kvs, xs = [V.ref v] ∧ H v = some (kview v d) ∧ H d = some (.dK kvs) ∧ ∀ q, H q = none → Q (.ref q) (upd H q (.tup (kvs.map fun p => kV p.1)))
theorem call_tupKeys (hc : X.calm = true) : CallR X (.type "tuple") rTupKeys := by
  intro pins s σ H xs us Q I r ⟨v, d, kvs, ex, hv, hd, q⟩
  subst ex
  obtain ⟨u, rfl, ru⟩ := vals1 r
  cases ru
  obtain ⟨hz, lo, vs, kv, hdo⟩ := I.hok d _ hd
  obtain ⟨ep, hat⟩ := hdo.dictAt
  have hview : PySem.W.KdlKeysView s.heap v d := (I.hok v _ hv).1
  have lk : kvs.length = vs.length := Paired.length kv
  have src := PySem.W.kdl_keys (prog := X.prog) (w := X.w) (knd := mixKind X.prog X.w) (d := d) (r := v) (kvs := vs) (ep := ep)
  have hh : X.A.handled = none := I.ok.hd hc
  refine callType_codes (Q₁ := fun obj s₁ => s₁.TypeIs obj "tuple" ∧ EP X pins σ Q obj s₁) F.called_tuple (F.typeCall_tuple_1 _) F.entry_object_init ?_ fun obj s₁ h₁ =>
    ⟨h₁.1, F.args_object_init_2 obj _, object_init_meets F.called_tuple.init.lookup F.called_tuple.made (by decide) X.prog X.w X.A.in1 _ s₁ ⟨h₁.1, rfl, h₁.2⟩⟩
  refine codeAny_of_tree ?_
  show wpAny _ X.A.in1.in1 (do checkBuiltinCall "tuple.__new__" ⟨[.type "tuple", .ref v], []⟩
                               again (.builtin "tuple.__new__" ⟨[.type "tuple", .ref v], []⟩)) _ _ s
  refine wpAny_bind (wpAny_of_eq (F.newCall_tuple_1 _) (wpAny_pure ⟨plainId_quiet F.plain_tuple_new _, codeAny_builtin F.entry_tuple_new ?_⟩))
  rw [Around.under_plainId F.plain_tuple_new _]
  have c1 := sub_tuple_self
  have c2 := init_tuple_lookup
  have c3 := madeHere_tuple
  have tv : s.TypeIs (.ref v) "dict_keys" := hview.typeIs
  have hh1 : X.A.in1.in1.handled = none := hh
  wp_walk using wpAny_typeOf tv, PySem.W.kdu_collect (A := X.A.in1.in1) src hh1 ⟨hview, hat⟩ (by omega)
  intro h' tk acc hk hacc
  show wpAny _ _ (Builtin.Tuple.tupleExact acc.toList.toArray >>= fun z => ret z) _ _ _
  unfold Builtin.Tuple.tupleExact
  refine wpAny_bind (wpAny_newObj_type ?_ (by show acc.toList.toArray.size ≤ sizeLine; simp only [Array.toArray_toList]; rw [hacc.1]; omega))
  refine wpAny_pure ?_
  have J : Inv X pins σ H { s with heap := h', toks := tk } := I.kept hk
  have nf : H h'.objs.size = none := J.hok.fresh (Nat.le_refl _)
  refine ⟨⟨_, Heap.get?_push_size _ rfl, rfl⟩, .ref h'.objs.size, upd H h'.objs.size (.tup (kvs.map fun p => kV p.1)), J.laid (t' := tk) (fun b o e => Heap.get?_push_of_some _ e) (Nat.le_refl _) ?_, rfl, q _ nf⟩
  refine show ObjOk X.prog X.w _ _ _ (.tup (kvs.map fun p => kV p.1)) from ⟨by rw [List.length_map]; exact hz, acc.toList, vals_by (by rw [List.length_map, lk]; exact (hacc.1.symm.trans Array.length_toList.symm)) fun j x z h1 h2 => ?_, ⟨_, Heap.get?_push_size _ rfl, rfl, _, rfl⟩⟩
  obtain ⟨k, y, hky, hi⟩ := hacc.2 j z (by rw [← Array.getElem?_toList]; exact h2)
  have ek : (kvs.map (·.1))[j]? = some k := by
    rw [KV.keys kv, List.getElem?_map, hky]; rfl
  have ez : (kvs.map fun p => kV p.1)[j]? = some (kV k) := by
    rw [show (kvs.map fun p => kV p.1) = (kvs.map (·.1)).map kV from by rw [List.map_map]; rfl, List.getElem?_map, ek]; rfl
  rw [ez] at h1
  cases h1
  exact key_rel hi
end
end Rw

set_option Elab.async false
set_option linter.all false
set_option maxRecDepth 100000
set_option maxHeartbeats 4000000
/-! The text by places; what the head has to tell; what stands in the heap. -/
namespace Rw
open PySem PySem.Spec PyProof.Rows L2
/-! ### the text by places -/
def top (i : Nat) : Stmt := PySem.Challenge.pw_rungworks_k32_two_nodes.main.body.getD i (.Pass ⟨0, 0, 0, 0⟩)
abbrev sIsWord : Stmt := top 11
abbrev sIsName : Stmt := top 12
abbrev sInner0 : Stmt := inClass (top 16) 0
abbrev sSize : Stmt := inClass (top 16) 4
abbrev sDepth : Stmt := inClass (top 16) 5
abbrev sGather0 : Stmt := inClass (top 16) 6
abbrev sContacts : Stmt := inClass (top 16) 7
abbrev sBounded : Stmt := inClass (top 16) 8
abbrev sFxInit : Stmt := inClass (top 17) 0
abbrev sCtInit : Stmt := inClass (top 18) 0
abbrev sGatherC : Stmt := inClass (top 18) 4
abbrev sNtInit : Stmt := inClass (top 19) 0
abbrev sInnerN : Stmt := inClass (top 19) 1
abbrev sGrInit : Stmt := inClass (top 20) 0
abbrev sInnerG : Stmt := inClass (top 20) 1
abbrev sSingle : Stmt := top 24
abbrev sJoin : Stmt := top 25
abbrev sPartOf : Stmt := top 26
abbrev sShInit : Stmt := inClass (top 30) 0
abbrev sPlace : Stmt := inClass (top 30) 1
abbrev sMade : Stmt := inClass (top 30) 2
abbrev sBelow : Stmt := inClass (top 30) 3
abbrev sJoined : Stmt := inClass (top 30) 5
abbrev sOpp : Stmt := inClass (top 30) 6
abbrev sDrawn : Stmt := inClass (top 30) 7
abbrev sNeed : Stmt := inClass (top 30) 8
abbrev sNode : Stmt := inClass (top 30) 9
abbrev sTwo : Stmt := inClass (top 30) 10
abbrev sBoth : Stmt := inClass (top 30) 11
abbrev sEither : Stmt := inClass (top 30) 12
abbrev sTurned : Stmt := inClass (top 30) 13
abbrev sShown : Stmt := inClass (top 30) 14
abbrev sCellAt : Stmt := top 32
abbrev sMixed : Stmt := top 33
abbrev sWord : Stmt := top 34
abbrev sNames : Stmt := top 35
abbrev sGrown : Stmt := top 36
abbrev sToldBy : Stmt := top 37
abbrev sHolds : Stmt := top 38
abbrev sRow : Stmt := top 39
abbrev sDown : Stmt := top 40
abbrev sWhole : Stmt := top 41
abbrev sLaw : Stmt := top 42

/-! ### defs and classes as the head leaves them -/
/-- a def of the module under its name -/
structure DefAt (K : PySem.W.Frag) (mg : Str → Option Value) (x : Str) (st : Stmt) (ps : List Str) : Prop where
  ex : ∃ (f : Addr) (fd : FuncData), Fun K x x st f fd ∧ mg x = some (.ref f) ∧ Binds K fd ps []
/-- a method of the class at C -/
structure MetAt (K : PySem.W.Frag) (C : Addr) (m qual : Str) (st : Stmt) (ps : List Str) : Prop where
  ex : ∃ (f : Addr) (fd : FuncData), Meth K C m f ∧ Fun K m qual st f fd ∧ Binds K fd ps []
/-- a class that is made by its name -/
structure MakAt (K : PySem.W.Frag) (mg : Str → Option Value) (x : Str) (C : Addr) (qual : Str) (st : Stmt) (ps : List Str) : Prop where
  ex : ∃ (f : Addr) (fd : FuncData), Mk K C f ∧ mg x = some (.ref C) ∧ Fun K "__init__" qual st f fd ∧ Binds K fd ps []
section
variable (P : Program) (w : World) (K : PySem.W.Frag) (mg : Str → Option Value) (base : Heap)
structure Cal (k : Nat) (x : Str) (sp : Sp) : Prop where
  ex : ∃ (f : Addr) (fd : FuncData) (ps : List Str), FnOk P w K mg base CX0 k f fd ps sp ∧ mg x = some (.ref f) ∧ PySem.W.keepIn K (.ref f) = true ∧ Binds K fd ps []
structure Met (k : Nat) (C : Addr) (m : Str) (sp : Sp) : Prop where
  ex : ∃ (f : Addr) (fd : FuncData) (ps : List Str), Cls K C ∧ Meth K C m f ∧ FnOk P w K mg base CX0 k f fd ps sp ∧ Binds K fd ps []
structure Mak (k : Nat) (x : Str) (C : Addr) (sp : Sp) : Prop where
  ex : ∃ (f : Addr) (fd : FuncData) (ps : List Str), Mk K C f ∧ FnOk P w K mg base CX0 k f fd ps sp ∧ mg x = some (.ref C) ∧ Binds K fd ps []
end
section
variable {P : Program} {w : World} {K : PySem.W.Frag} {mg : Str → Option Value} {base : Heap} {k : Nat} {x m qual : Str} {C : Addr} {sp : Sp} {st : Stmt} {ps N : List Str}
/-- what has to be shown of a def's body -/
abbrev Body (P : Program) (w : World) (K : PySem.W.Frag) (mg : Str → Option Value) (base : Heap) (k : Nat) (qual : Str) (st : Stmt) (N : List Str) (sp : Sp) : Prop :=
  ∀ (f : Addr) (cdv : Value) (A : Around) (outer : List Env) (s : Shared) (H : Hp) (vs : List V) (Q : VK) (E : XK), Room k (A.deeper (envOfC qual (defScope st) s.heap.objs.size f cdv)) → sp vs H Q E →
      ∃ t, PSs (cxOf CX0 P w K mg base N qual (defScope st) f cdv A outer s H E).nox (defBody st) t ∧ t { nx := fun _ H' => Q .non H', rt := Q } (start N vs) H
theorem DefAt.ok (d : DefAt K mg x st ps) (S : FnScope N ps (defScope st)) (len : ∀ vs H Q E, sp vs H Q E → vs.length = ps.length) (b : Body P w K mg base k x st N sp) : Cal P w K mg base (k + 1) x sp := by
  obtain ⟨f, fd, F, hm, hb⟩ := d.ex
  exact ⟨f, fd, ps, F.ok S len (b f), hm, F.kp, hb⟩
theorem MetAt.ok (c : Cls K C) (d : MetAt K C m qual st ps) (S : FnScope N ps (defScope st)) (len : ∀ vs H Q E, sp vs H Q E → vs.length = ps.length) (b : Body P w K mg base k qual st N sp) : Met P w K mg base (k + 1) C m sp := by
  obtain ⟨f, fd, hm, F, hb⟩ := d.ex
  exact ⟨f, fd, ps, c, hm, F.ok S len (b f), hb⟩
theorem MakAt.ok (d : MakAt K mg x C qual st ps) (S : FnScope N ps (defScope st)) (len : ∀ vs H Q E, sp vs H Q E → vs.length = ps.length) (b : Body P w K mg base k qual st N sp) : Mak P w K mg base (k + 1) x C sp := by
  obtain ⟨f, fd, hk, hm, F, hb⟩ := d.ex
  exact ⟨f, fd, ps, hk, F.ok S len (b f), hm, hb⟩
/-- nothing is asked of a promise that is never due -/
theorem MetAt.never (c : Cls K C) (d : MetAt K C m qual st ps) (S : FnScope N ps (defScope st)) (no : ∀ vs H Q E, ¬ sp vs H Q E) : Met P w K mg base 1 C m sp :=
  d.ok c S (fun vs H Q E h => (no vs H Q E h).elim) fun f cdv A outer s H vs Q E hr h => (no vs H Q E h).elim
theorem DefAt.never (d : DefAt K mg x st ps) (S : FnScope N ps (defScope st)) (no : ∀ vs H Q E, ¬ sp vs H Q E) : Cal P w K mg base 1 x sp :=
  d.ok S (fun vs H Q E h => (no vs H Q E h).elim) fun f cdv A outer s H vs Q E hr h => (no vs H Q E h).elim
theorem Met.mono {j : Nat} (c : Met P w K mg base j C m sp) (h : j ≤ k) : Met P w K mg base k C m sp := by
  obtain ⟨f, fd, ps, c1, c2, F, b⟩ := c.ex
  exact ⟨f, fd, ps, c1, c2, F.mono h, b⟩
theorem Cal.mono {j : Nat} (c : Cal P w K mg base j x sp) (h : j ≤ k) : Cal P w K mg base k x sp := by
  obtain ⟨f, fd, ps, F, b⟩ := c.ex
  exact ⟨f, fd, ps, F.mono h, b⟩
end
section
variable {X : Cx} {k j : Nat} {C : Addr} {x m : Str} {sp : Sp} {p pos apos : Pos} {e o : Expr} {es : List Expr} {ta : TE} {t : TA}
theorem qc (c : Cal X.prog X.w X.K X.mg X.base k x sp) (hr : Room j X.A) (hk : k ≤ j) (ha : PA X (e :: es) t) (hg : Gl X x := by rfl)
    (hdb : (x == ("__debug__" : Str)) = false := by decide) (he : starEach (e :: es) X.env = (false, eval e X.env) :: starEach es X.env := by rfl) (hpl : (backTo pos (starEach es X.env)).any (·.1) = false := by rfl) :
    PE X (.Call (.Name x p) (e :: es) [] pos) (tCall sp [] E0 t) := by
  obtain ⟨f, fd, ps, F, hm, kp, b⟩ := c.ex
  exact pe_call F (hr.mono hk) hg hm kp b .nil pass0 ha hdb he hpl
theorem qmk (c : Mak X.prog X.w X.K X.mg X.base k x C sp) (hr : Room j X.A) (hk : k + 1 ≤ j) (ha : PA X (e :: es) t) (hg : Gl X x := by rfl)
    (hdb : (x == ("__debug__" : Str)) = false := by decide) (he : starEach (e :: es) X.env = (false, eval e X.env) :: starEach es X.env := by rfl) (hpl : (backTo pos (starEach es X.env)).any (·.1) = false := by rfl) :
    PE X (.Call (.Name x p) (e :: es) [] pos) (tMake C sp [] E0 t) := by
  obtain ⟨f, fd, ps, M, F, hm, b⟩ := c.ex
  exact pe_make M F (hr.mono hk) hg hm b .nil pass0 ha hdb he hpl
theorem qm {pl : Sem Bool} (c : Met X.prog X.w X.K X.mg X.base k C m sp) (hr : Room j X.A) (hk : k ≤ j) (he : PE X o ta) (ha : PA X (e :: es) t)
    (hst : starEach (e :: es) X.env = (false, eval e X.env) :: starEach es X.env := by rfl) (hpl : (backTo pos (starEach es X.env)).any (·.1) = false := by rfl)
    (ht : eval (.Call (.Attribute o m apos) (e :: es) [] pos) X.env = (do
      let ov ← eval o X.env
      standAt apos.atName
      let (f, first) ← holding [ov] (getMethod ov m pl)
      callWith pos f first (backTo pos (starEach (e :: es) X.env)) (backToKw pos (keywordEach [] X.env))) := by rfl) :
    PE X (.Call (.Attribute o m apos) (e :: es) [] pos) (tMeth C m sp [] E0 ta t) := by
  obtain ⟨f, fd, ps, hc, hm, F, b⟩ := c.ex
  exact pe_meth (pl := pl) he hc hm F (hr.mono hk) b .nil pass0 ha hst hpl ht
theorem qm0 {pl : Sem Bool} (c : Met X.prog X.w X.K X.mg X.base k C m sp) (hr : Room j X.A) (hk : k ≤ j) (he : PE X o ta)
    (ht : eval (.Call (.Attribute o m apos) [] [] pos) X.env = (do
      let ov ← eval o X.env
      standAt apos.atName
      let (f, first) ← holding [ov] (getMethod ov m pl)
      callWith pos f first (backTo pos (starEach [] X.env)) (backToKw pos (keywordEach [] X.env))) := by rfl) :
    PE X (.Call (.Attribute o m apos) [] [] pos) (tMeth C m sp [] E0 ta tNil) := by
  obtain ⟨f, fd, ps, hc, hm, F, b⟩ := c.ex
  exact pe_meth0 (pl := pl) he hc hm F (hr.mono hk) b .nil pass0 ht
end

/-! ### the heap: what stays -/
/-- things that stay as they are once they are whole -/
def Imm : HO → Bool
  | .lst _ => false
  | .dK _ => false
  | .dT _ => false
  | .set _ _ => false
  | .ext _ => false
  | .ins _ _ fs => !fs.isEmpty
  | _ => true
/-- all is kept but what stands at S -/
structure Ext (S : List Addr) (H H' : Hp) : Prop where
  out : ∀ b o, H b = some o → b ∉ S → H' b = some o
  imm : ∀ b o, H b = some o → Imm o = true → H' b = some o
theorem Ext.refl {S : List Addr} {H : Hp} : Ext S H H := ⟨fun _ _ h _ => h, fun _ _ h _ => h⟩
theorem Ext.same {S : List Addr} {H H' : Hp} (s : Same H H') : Ext S H H' := ⟨fun b o h _ => s b o h, fun b o h _ => s b o h⟩
theorem Ext.trans {S : List Addr} {H H1 H2 : Hp} (a : Ext S H H1) (b : Ext S H1 H2) : Ext S H H2 :=
  ⟨fun c o h n => b.out c o (a.out c o h n) n, fun c o h i => b.imm c o (a.imm c o h i) i⟩
theorem Ext.mono {S S' : List Addr} {H H' : Hp} (a : Ext S H H') (h : ∀ b ∈ S, b ∈ S') : Ext S' H H' :=
  ⟨fun b o e n => a.out b o e fun z => n (h b z), a.imm⟩
theorem Ext.put {S : List Addr} {H : Hp} {p : Addr} {o u : HO} (hp : H p = some o) (i : Imm o = false) (m : p ∈ S) : Ext S H (upd H p u) := by
  refine ⟨fun b v e n => ?_, fun b v e j => ?_⟩
  · rw [upd_ne (fun z => n (by rw [z]; exact m))]; exact e
  · rw [upd_ne (fun z => ?_)]
    · exact e
    · rw [z, hp] at e
      cases e
      rw [i] at j
      cases j
theorem Ext.drop {S : List Addr} {H H' : Hp} {p : Addr} (a : Ext (p :: S) H H') (hp : H p = none) : Ext S H H' :=
  ⟨fun b o e n => a.out b o e fun z => by
    rcases List.mem_cons.mp z with z | z
    · rw [z, hp] at e; cases e
    · exact n z, a.imm⟩
theorem Ext.whole {H H' : Hp} (a : Ext [] H H') : Same H H' := fun b o e => a.out b o e (by simp)
theorem same_new {H : Hp} {p : Addr} (h : H p = none) (o : HO) : Same H (upd H p o) := fun b u q => by rw [upd_ne (ne_of_none q h)]; exact q
theorem Ext.new {S : List Addr} {H : Hp} {p : Addr} (h : H p = none) (o : HO) : Ext S H (upd H p o) := .same (same_new h o)
theorem Ext.free {S : List Addr} {H H' : Hp} (a : Ext S H H') {p : Addr} (h : H' p = none) (hs : p ∉ S) : H p = none := by
  cases q : H p with
  | none => rfl
  | some o => rw [a.out p o q hs] at h; cases h
theorem Ext.tup {S : List Addr} {H H' : Hp} (a : Ext S H H') {p : Addr} {xs : List V} (h : H p = some (.tup xs)) : H' p = some (.tup xs) := a.imm p _ h rfl
/-- a heap that is changed at p, where a thing stood that is not whole yet -/
theorem Ext.at_ {H H' : Hp} {p C dx : Addr} (hp : H p = some (.ins C dx [])) (k : ∀ b o, H b = some o → b ≠ p → H' b = some o) : Ext [p] H H' :=
  ⟨fun b o e n => k b o e fun z => n (by rw [z]; exact List.mem_singleton.mpr rfl), fun b o e i => k b o e fun z => by
    rw [z, hp] at e; cases e; cases i⟩

/-! ### small facts of texts and fields -/
theorem lk1 (f : Str) (v : V) (r : List (Str × V)) : ((f, v) :: r).lookup f = some v := by simp [List.lookup]
theorem lkS {f g : Str} (v : V) (r : List (Str × V)) (h : ¬ g = f) : ((f, v) :: r).lookup g = r.lookup g := by
  have hb : (g == f) = false := beq_eq_false_iff_ne.mpr h
  simp only [List.lookup, hb]
theorem lk0 {f g : Str} (v : V) (h : ¬ g = f) : ([(f, v)] : List (Str × V)).lookup g = none := by rw [lkS v [] h]; rfl
/-- a name that is none of the fields of parts -/
structure NotF (m : Str) : Prop where
  a : ¬ m = "value"
  b : ¬ m = "name"
  c : ¬ m = "part"
  d : ¬ m = "parts"

/-! ### parts and told tuples -/
inductive Kd where
  | fx | ct | nt | se | br
  deriving DecidableEq
def Tl.kd : Tl → Kd
  | .fx _ => .fx
  | .ct _ => .ct
  | .nt _ => .nt
  | .gr true _ => .se
  | .gr false _ => .br
/-- the word that a tuple begins with -/
def Kd.word : Kd → Str
  | .fx => "fixed"
  | .ct => "contact"
  | .nt => "not"
  | .se => "and"
  | .br => "or"
section
variable (cl : Kd → Addr) (nm : List Str) (H : Hp)
mutual
def PartAt (v : V) : Tl → Prop
  | .fx b => ∃ a dx, v = .ref a ∧ H a = some (.ins (cl .fx) dx [("value", .bl b)])
  | .ct i => ∃ a dx x, v = .ref a ∧ H a = some (.ins (cl .ct) dx [("name", .str x)]) ∧ nm[i]? = some x
  | .nt t => ∃ a dx q, v = .ref a ∧ H a = some (.ins (cl .nt) dx [("part", q)]) ∧ PartAt q t
  | .gr k ts => ∃ a dx q xs, v = .ref a ∧ H a = some (.ins (cl (Tl.gr k ts).kd) dx [("parts", .ref q)]) ∧ H q = some (.tup xs) ∧ PartsAt xs ts
def PartsAt : List V → List Tl → Prop
  | xs, [] => xs = []
  | xs, t :: ts => ∃ y ys, xs = y :: ys ∧ PartAt y t ∧ PartsAt ys ts
end
mutual
def ToldAt (v : V) : Tl → Prop
  | .fx b => ∃ a, v = .ref a ∧ H a = some (.tup [.str "fixed", .bl b])
  | .ct i => ∃ a x, v = .ref a ∧ H a = some (.tup [.str "contact", .str x]) ∧ nm[i]? = some x
  | .nt t => ∃ a q, v = .ref a ∧ H a = some (.tup [.str "not", q]) ∧ ToldAt q t
  | .gr k ts => ∃ a xs, v = .ref a ∧ H a = some (.tup (.str (Tl.gr k ts).kd.word :: xs)) ∧ ToldsAt xs ts
def ToldsAt : List V → List Tl → Prop
  | xs, [] => xs = []
  | xs, t :: ts => ∃ y ys, xs = y :: ys ∧ ToldAt y t ∧ ToldsAt ys ts
end
end
section
variable {cl : Kd → Addr} {nm : List Str} {H H' : Hp}
mutual
theorem PartAt.keep (k : ∀ b o, H b = some o → Imm o = true → H' b = some o) : ∀ (t : Tl) (v : V), PartAt cl nm H v t → PartAt cl nm H' v t
  | .fx b, v, h => by
    obtain ⟨a, dx, e, h⟩ := h
    exact ⟨a, dx, e, k _ _ h rfl⟩
  | .ct i, v, h => by
    obtain ⟨a, dx, x, e, h, n⟩ := h
    exact ⟨a, dx, x, e, k _ _ h rfl, n⟩
  | .nt t, v, h => by
    obtain ⟨a, dx, q, e, h, n⟩ := h
    exact ⟨a, dx, q, e, k _ _ h rfl, PartAt.keep k t q n⟩
  | .gr b ts, v, h => by
    obtain ⟨a, dx, q, xs, e, h, h2, n⟩ := h
    exact ⟨a, dx, q, xs, e, k _ _ h rfl, k _ _ h2 rfl, PartsAt.keep k ts xs n⟩
theorem PartsAt.keep (k : ∀ b o, H b = some o → Imm o = true → H' b = some o) : ∀ (ts : List Tl) (xs : List V), PartsAt cl nm H xs ts → PartsAt cl nm H' xs ts
  | [], xs, h => h
  | t :: ts, xs, h => by
    obtain ⟨y, ys, e, h1, h2⟩ := h
    exact ⟨y, ys, e, PartAt.keep k t y h1, PartsAt.keep k ts ys h2⟩
end
mutual
theorem ToldAt.keep (k : ∀ b o, H b = some o → Imm o = true → H' b = some o) : ∀ (t : Tl) (v : V), ToldAt nm H v t → ToldAt nm H' v t
  | .fx b, v, h => by
    obtain ⟨a, e, h⟩ := h
    exact ⟨a, e, k _ _ h rfl⟩
  | .ct i, v, h => by
    obtain ⟨a, x, e, h, n⟩ := h
    exact ⟨a, x, e, k _ _ h rfl, n⟩
  | .nt t, v, h => by
    obtain ⟨a, q, e, h, n⟩ := h
    exact ⟨a, q, e, k _ _ h rfl, ToldAt.keep k t q n⟩
  | .gr b ts, v, h => by
    obtain ⟨a, xs, e, h, n⟩ := h
    exact ⟨a, xs, e, k _ _ h rfl, ToldsAt.keep k ts xs n⟩
theorem ToldsAt.keep (k : ∀ b o, H b = some o → Imm o = true → H' b = some o) : ∀ (ts : List Tl) (xs : List V), ToldsAt nm H xs ts → ToldsAt nm H' xs ts
  | [], xs, h => h
  | t :: ts, xs, h => by
    obtain ⟨y, ys, e, h1, h2⟩ := h
    exact ⟨y, ys, e, ToldAt.keep k t y h1, ToldsAt.keep k ts ys h2⟩
end
theorem PartAt.ext {S : List Addr} {t : Tl} {v : V} (h : PartAt cl nm H v t) (e : Ext S H H') : PartAt cl nm H' v t := PartAt.keep e.imm t v h
theorem PartsAt.ext {S : List Addr} {ts : List Tl} {xs : List V} (h : PartsAt cl nm H xs ts) (e : Ext S H H') : PartsAt cl nm H' xs ts := PartsAt.keep e.imm ts xs h
theorem ToldAt.ext {S : List Addr} {t : Tl} {v : V} (h : ToldAt nm H v t) (e : Ext S H H') : ToldAt nm H' v t := ToldAt.keep e.imm t v h
theorem ToldsAt.ext {S : List Addr} {ts : List Tl} {xs : List V} (h : ToldsAt nm H xs ts) (e : Ext S H H') : ToldsAt nm H' xs ts := ToldsAt.keep e.imm ts xs h
theorem PartsAt.len : ∀ {ts : List Tl} {xs : List V}, PartsAt cl nm H xs ts → xs.length = ts.length
  | [], xs, h => by rw [show xs = [] from h]; rfl
  | t :: ts, xs, h => by
    obtain ⟨y, ys, e, _, h2⟩ := h
    rw [e, List.length_cons, List.length_cons, PartsAt.len h2]
theorem ToldsAt.len : ∀ {ts : List Tl} {xs : List V}, ToldsAt nm H xs ts → xs.length = ts.length
  | [], xs, h => by rw [show xs = [] from h]; rfl
  | t :: ts, xs, h => by
    obtain ⟨y, ys, e, _, h2⟩ := h
    rw [e, List.length_cons, List.length_cons, ToldsAt.len h2]
theorem PartsAt.get : ∀ {ts : List Tl} {xs : List V}, PartsAt cl nm H xs ts → ∀ {i : Nat} {x : V}, xs[i]? = some x → ∃ t, ts[i]? = some t ∧ PartAt cl nm H x t
  | [], xs, h, i, x, e => by rw [show xs = [] from h] at e; simp at e
  | t :: ts, xs, h, 0, x, e => by
    obtain ⟨y, ys, rfl, h1, _⟩ := h
    exact ⟨t, rfl, by rw [← Option.some.inj (show some y = some x from e)]; exact h1⟩
  | t :: ts, xs, h, i + 1, x, e => by
    obtain ⟨y, ys, rfl, _, h2⟩ := h
    exact PartsAt.get h2 (i := i) e
theorem ToldsAt.get : ∀ {ts : List Tl} {xs : List V}, ToldsAt nm H xs ts → ∀ {i : Nat} {x : V}, xs[i]? = some x → ∃ t, ts[i]? = some t ∧ ToldAt nm H x t
  | [], xs, h, i, x, e => by rw [show xs = [] from h] at e; simp at e
  | t :: ts, xs, h, 0, x, e => by
    obtain ⟨y, ys, rfl, h1, _⟩ := h
    exact ⟨t, rfl, by rw [← Option.some.inj (show some y = some x from e)]; exact h1⟩
  | t :: ts, xs, h, i + 1, x, e => by
    obtain ⟨y, ys, rfl, _, h2⟩ := h
    exact ToldsAt.get h2 (i := i) e
theorem PartsAt.app : ∀ {ts us : List Tl} {xs ys : List V}, PartsAt cl nm H xs ts → PartsAt cl nm H ys us → PartsAt cl nm H (xs ++ ys) (ts ++ us)
  | [], us, xs, ys, h, g => by rw [show xs = [] from h]; exact g
  | t :: ts, us, xs, ys, h, g => by
    obtain ⟨y, zs, e, h1, h2⟩ := h
    exact ⟨y, zs ++ ys, by rw [e]; rfl, h1, PartsAt.app h2 g⟩
theorem ToldsAt.app : ∀ {ts us : List Tl} {xs ys : List V}, ToldsAt nm H xs ts → ToldsAt nm H ys us → ToldsAt nm H (xs ++ ys) (ts ++ us)
  | [], us, xs, ys, h, g => by rw [show xs = [] from h]; exact g
  | t :: ts, us, xs, ys, h, g => by
    obtain ⟨y, zs, e, h1, h2⟩ := h
    exact ⟨y, zs ++ ys, by rw [e]; rfl, h1, ToldsAt.app h2 g⟩
theorem PartsAt.one {t : Tl} {x : V} (h : PartAt cl nm H x t) : PartsAt cl nm H [x] [t] := ⟨x, [], rfl, h, rfl⟩
theorem ToldsAt.one {t : Tl} {x : V} (h : ToldAt nm H x t) : ToldsAt nm H [x] [t] := ⟨x, [], rfl, h, rfl⟩
theorem ToldsAt.take : ∀ {ts : List Tl} {xs : List V} (n : Nat), ToldsAt nm H xs ts → ToldsAt nm H (xs.take n) (ts.take n)
  | ts, xs, 0, _ => by rw [List.take_zero, List.take_zero]; rfl
  | [], xs, n + 1, h => by rw [show xs = [] from h]; rfl
  | t :: ts, xs, n + 1, h => by
    obtain ⟨y, ys, rfl, h1, h2⟩ := h
    exact ⟨y, ys.take n, rfl, h1, ToldsAt.take n h2⟩
theorem ToldsAt.drop : ∀ {ts : List Tl} {xs : List V} (n : Nat), ToldsAt nm H xs ts → ToldsAt nm H (xs.drop n) (ts.drop n)
  | ts, xs, 0, h => h
  | [], xs, n + 1, h => by rw [show xs = [] from h]; rfl
  | t :: ts, xs, n + 1, h => by
    obtain ⟨y, ys, rfl, _, h2⟩ := h
    exact ToldsAt.drop n h2
/-- a part is an instance of its kind's class -/
theorem PartAt.ins {t : Tl} {v : V} (h : PartAt cl nm H v t) : ∃ a dx fs, v = .ref a ∧ H a = some (.ins (cl t.kd) dx fs) ∧ ∀ m, NotF m → fs.lookup m = none := by
  cases t with
  | fx b => obtain ⟨a, dx, e, h⟩ := h; exact ⟨a, dx, _, e, h, fun m n => lk0 _ n.a⟩
  | ct i => obtain ⟨a, dx, x, e, h, _⟩ := h; exact ⟨a, dx, _, e, h, fun m n => lk0 _ n.b⟩
  | nt t => obtain ⟨a, dx, q, e, h, _⟩ := h; exact ⟨a, dx, _, e, h, fun m n => lk0 _ n.c⟩
  | gr k ts => obtain ⟨a, dx, q, xs, e, h, _⟩ := h; exact ⟨a, dx, _, e, h, fun m n => lk0 _ n.d⟩
theorem ToldAt.many {t : Tl} {v : V} (h : ToldAt nm H v t) (n : t.single = false) : ∃ a xs, v = .ref a ∧ H a = some (.tup (.str t.kd.word :: xs)) ∧ ToldsAt nm H xs t.kids := by
  cases t with
  | fx b => cases n
  | ct i => cases n
  | nt t => obtain ⟨a, q, e, h, k⟩ := h; exact ⟨a, [q], e, h, ToldsAt.one k⟩
  | gr k ts => obtain ⟨a, xs, e, h, k⟩ := h; exact ⟨a, xs, e, h, k⟩
theorem ToldAt.any {t : Tl} {v : V} (h : ToldAt nm H v t) : ∃ a xs, v = .ref a ∧ H a = some (.tup (.str t.kd.word :: xs)) := by
  cases t with
  | fx b => obtain ⟨a, e, h⟩ := h; exact ⟨a, _, e, h⟩
  | ct i => obtain ⟨a, x, e, h, _⟩ := h; exact ⟨a, _, e, h⟩
  | nt t => obtain ⟨a, q, e, h, k⟩ := h; exact ⟨a, [q], e, h⟩
  | gr k ts => obtain ⟨a, xs, e, h, k⟩ := h; exact ⟨a, xs, e, h⟩
theorem PartAt.ref {t : Tl} {v : V} (h : PartAt cl nm H v t) : ∃ a, v = .ref a := let ⟨a, _, _, e, _⟩ := h.ins; ⟨a, e⟩
end

/-! ### names -/
/-- a text that is a name -/
def keptL : List Str := ["on", "off", "and", "or", "not", "set", "reset", "timer", "counter", "inputs", "outputs"]
structure IsNm (x : Str) : Prop where
  signs : ∀ c ∈ x.cps.toList, 97 ≤ c ∧ c ≤ 122
  pos : x ≠ ""
  len : x.length ≤ 8
  free : x ∉ keptL
/-- the names of a sheet -/
structure Nms (nm : List Str) : Prop where
  nd : nm.Nodup
  one : ∀ x ∈ nm, IsNm x
  pos : 0 < nm.length
  few : nm.length ≤ 6

/-! ### the head's facts -/
structure IsOwn (K : PySem.W.Frag) (C : Addr) : Prop where
  ha : PySem.W.findIn K (.ref C) "__class__" = some (some (.builtin "object.__class__"))
  hn : PySem.W.specialIn K (.builtin "object.__class__") "__get__" = some (some (.builtin "getset_descriptor.__get__"))
  htk : PySem.W.takesIn K (.builtin "object.__class__") = some true
  hm : PySem.W.mroIn K C (.type "object") = some true
/-- the classes of parts -/
structure TxtP (K : PySem.W.Frag) (mg : Str → Option Value) (cl : Kd → Addr) : Prop where
  cls : ∀ k, Cls K (cl k)
  own : ∀ k, IsOwn K (cl k)
  isFx : ∀ k, PySem.W.kitOne K (.ref (cl k)) (.ref (cl .fx)) = some (decide (k = .fx))
  isCt : ∀ k, PySem.W.kitOne K (.ref (cl k)) (.ref (cl .ct)) = some (decide (k = .ct))
  isNt : ∀ k, PySem.W.kitOne K (.ref (cl k)) (.ref (cl .nt)) = some (decide (k = .nt))
  isSe : ∀ k, PySem.W.kitOne K (.ref (cl k)) (.ref (cl .se)) = some (decide (k = .se))
  nV : NoAttr K (cl .fx) "value"
  nN : NoAttr K (cl .ct) "name"
  nP : NoAttr K (cl .nt) "part"
  nS : NoAttr K (cl .se) "parts"
  nB : NoAttr K (cl .br) "parts"
  size : ∀ k, MetAt K (cl k) "size" "Part.size" sSize ["self"]
  depth : ∀ k, MetAt K (cl k) "depth" "Part.depth" sDepth ["self"]
  contacts : ∀ k, MetAt K (cl k) "contacts" "Part.contacts" sContacts ["self"]
  bounded : ∀ k, MetAt K (cl k) "bounded" "Part.bounded" sBounded ["self"]
  gatherC : MetAt K (cl .ct) "gather" "Contact.gather" sGatherC ["self", "found"]
  gather0 : ∀ k, k ≠ .ct → MetAt K (cl k) "gather" "Part.gather" sGather0 ["self", "found"]
  inner0 : ∀ k, k = .fx ∨ k = .ct → MetAt K (cl k) "inner" "Part.inner" sInner0 ["self"]
  innerN : MetAt K (cl .nt) "inner" "Turned.inner" sInnerN ["self"]
  innerG : ∀ k, k = .se ∨ k = .br → MetAt K (cl k) "inner" "Group.inner" sInnerG ["self"]
  mkFx : MakAt K mg "Fixed" (cl .fx) "Fixed.__init__" sFxInit ["self", "value"]
  mkCt : MakAt K mg "Contact" (cl .ct) "Contact.__init__" sCtInit ["self", "name"]
  mkNt : MakAt K mg "Turned" (cl .nt) "Turned.__init__" sNtInit ["self", "part"]
  mkSe : MakAt K mg "Series" (cl .se) "Group.__init__" sGrInit ["self", "parts"]
  mkBr : MakAt K mg "Branch" (cl .br) "Group.__init__" sGrInit ["self", "parts"]
  isWord : DefAt K mg "is_word" sIsWord ["text"]
  isName : DefAt K mg "is_name" sIsName ["name"]
  single : DefAt K mg "single" sSingle ["told"]
  join : DefAt K mg "joined" sJoin ["kind", "parts"]
  partOf : DefAt K mg "part_of" sPartOf ["told"]
  len : mg "len" = none
  sum : mg "sum" = none
  max : mg "max" = none
  tuple : mg "tuple" = none
  set : mg "set" = none
  isi : mg "isinstance" = none
  min : mg "min" = none
  int : mg "int" = none
  range : mg "range" = none
  bool : mg "bool" = none
  SIGNS : ∃ u, mg "SIGNS" = some u ∧ RelV (.str "abcdefghijklmnopqrstuvwxyz") u
  MSIGNS : ∃ u, mg "MOST_SIGNS" = some u ∧ RelV (.int 8) u
  KEPT : ∃ a, mg "KEPT" = some (.ref a) ∧ ∀ H, SqT K H a (keptL.map V.str)
  MSIZE : ∃ u, mg "MOST_SIZE" = some u ∧ RelV (.int 60) u
  MDEEP : ∃ u, mg "MOST_DEEP" = some u ∧ RelV (.int 20) u
  MNAMES : ∃ u, mg "MOST_NAMES" = some u ∧ RelV (.int 60) u
  MNODES : ∃ u, mg "MOST_NODES" = some u ∧ RelV (.int 2000) u
theorem pe_gc {X : Cx} {x : Str} {pos : Pos} {v : V} (h : ∃ u, X.mg x = some u ∧ RelV v u) (hg : Gl X x := by rfl) (hd : (x == ("__debug__" : Str)) = false := by decide) : PE X (.Name x pos) (tC v) := by
  obtain ⟨u, hm, r⟩ := h
  exact pe_glob hg hm r hd
end Rw

set_option Elab.async false
set_option linter.all false
set_option maxRecDepth 100000
set_option maxHeartbeats 4000000
/-! is_word, is_name. -/
namespace Rw
open PySem PySem.Spec PyProof.Rows L2
/-- a for over a text's signs -/
theorem for_text {x : Str} {g : TG} {tb : TS} {D : Ends} {σ : L2.St} {H : Hp} (Pv : Nat → L2.St → Hp → Prop) (h0 : Pv 0 σ H)
    (hs : ∀ i c σ H, c ∈ x.cps.toList → Pv i σ H → g (.str ⟨#[c]⟩) σ H fun σ2 H2 => tb { D with nx := Pv (i + 1), ct := Pv (i + 1), bk := D.nx } σ2 H2) (hd : ∀ i σ H, Pv i σ H → D.nx σ H) :
    ∃ W : Nat → Nat → L2.St → Hp → Prop, (∃ m, W 0 m σ H) ∧ ∀ i m σ H, W i m σ H →
      ((Its x).stop i H ∧ D.nx σ H) ∨ ((Its x).go i H ∧ ∃ N : L2.St → Hp → Prop, (∀ σ' H', N σ' H' → ∃ m', m' < m ∧ W (i + 1) m' σ' H') ∧ ∀ v H', (Its x).yld i H v H' → g v σ H' fun σ2 H2 => tb { D with nx := N, ct := N, bk := D.nx } σ2 H2) := by
  refine ⟨fun i m σ H => m = x.cps.size - i ∧ i ≤ x.cps.size ∧ Pv i σ H, ⟨x.cps.size, by simp, Nat.zero_le _, h0⟩, ?_⟩
  rintro i m σ H ⟨rfl, hi, p⟩
  by_cases lt : i < x.cps.size
  · refine .inr ⟨lt, Pv (i + 1), fun σ' H' q => ⟨x.cps.size - (i + 1), by omega, rfl, lt, q⟩, fun v H' ⟨e, c, ec, ev⟩ => ?_⟩
    subst e ev
    exact hs i c σ _ (by rw [Array.mem_toList_iff]; exact Array.mem_of_getElem? ec) p
  · exact .inl ⟨(by omega : x.cps.size ≤ i), hd i σ H p⟩
section
variable {P : Program} {w : World} {K : PySem.W.Frag} {mg : Str → Option Value} {base : Heap} {cl : Kd → Addr}
theorem sc_isWord : FnScope ["text", "sign"] ["text"] (defScope sIsWord) := ⟨rfl, rfl, rfl, by decide +kernel, rfl, by decide +kernel, by decide +kernel⟩
def spName : Sp := fun vs H Q _ => ∃ x, vs = [.str x] ∧ IsNm x ∧ Q (.bl true) H
theorem letters : ∀ c, 97 ≤ c ∧ c ≤ 122 → c ∈ ("abcdefghijklmnopqrstuvwxyz" : Str).cps.toList := by
  intro c h
  have : c ∈ (List.range 26).map (· + 97) := List.mem_map.mpr ⟨c - 97, by rw [List.mem_range]; omega, by omega⟩
  exact (show (List.range 26).map (· + 97) = ("abcdefghijklmnopqrstuvwxyz" : Str).cps.toList by decide +kernel) ▸ this
theorem ok_isWord (T : TxtP K mg cl) : Cal P w K mg base 1 "is_word" spName := by
  refine T.isWord.ok sc_isWord (fun vs H Q E h => ?_) fun f cdv A outer s H vs Q E hr h => ?_
  · obtain ⟨x, rfl, _⟩ := h; rfl
  obtain ⟨x, rfl, nx, q⟩ := h
  refine ⟨_, pss_cons (ps_for PassesOwn.never rfl (pi_str (pv 0)) (pg_name (i := 1) sc_isWord.nd rfl (Or.inl rfl))
      (pss_one (ps_if (pt_cmpR op_notIn_sign (pv 1) (pe_gc T.SIGNS) rfl) (pss_one (ps_ret pe_bl)) pss_nil)))
    (pss_one (ps_ret (pe_cmpR op_ne (pv 0) pe_str (nomark _)))), ?_⟩
  refine ⟨_, rfl, x, rfl, for_text (fun i σ H' => H' = H ∧ ∃ o, σ = [some (.str x), o]) ⟨rfl, _, rfl⟩ ?_ ?_⟩
  · rintro i c σ H' hc ⟨rfl, o, rfl⟩
    refine ⟨_, rfl, c, _, rfl, rfl, _, rfl, ?_⟩
    rw [decide_eq_true (letters c (nx.signs c hc))]
    exact ⟨rfl, _, rfl⟩
  · rintro i σ H' ⟨rfl, o, rfl⟩
    refine ⟨_, rfl, rfl, ?_⟩
    show Q (.bl (!decide (V.str x = V.str ""))) H'
    rw [decide_eq_false (fun z => nx.pos (V.str.inj z))]
    exact q
theorem sc_isName : FnScope ["name"] ["name"] (defScope sIsName) := ⟨rfl, rfl, rfl, by decide +kernel, rfl, by decide +kernel, by decide +kernel⟩
theorem kept_flat : (keptL.map V.str).all flatV = true := by decide +kernel
theorem not_kept {x : Str} (h : x ∉ keptL) : inV (.str x) (keptL.map V.str) = false := by
  unfold inV
  rw [List.any_eq_false]
  intro y hy
  obtain ⟨z, hz, rfl⟩ := List.mem_map.mp hy
  show ¬ (z == x) = true
  intro e
  exact h ((eq_of_beq e) ▸ hz)
theorem ok_isName (T : TxtP K mg cl) : Cal P w K mg base 2 "is_name" spName := by
  refine T.isName.ok sc_isName (fun vs H Q E h => ?_) fun f cdv A outer s H vs Q E hr h => ?_
  · obtain ⟨x, rfl, _⟩ := h; rfl
  obtain ⟨x, rfl, nx, q⟩ := h
  obtain ⟨ka, mk, hk⟩ := T.KEPT
  refine ⟨_, pss_one (ps_ret (pe_and (qc (ok_isWord T) hr (Nat.le_refl _) (pa_cons (pv 0) pa_nil))
    (pe_and (pe_cmpR op_le (pe_callB call_len_str (by rfl) T.len PySem.boot_len (pa_cons (pv 0) pa_nil)) (pe_gc T.MSIGNS) (nomark _))
      (pe_one (pe_cmpR op_notIn_seq (pv 0) (pe_gc (v := .ref ka) ⟨_, mk, rfl⟩) rfl))))), ?_⟩
  refine ⟨_, rfl, x, rfl, nx, true, rfl, iteT ?_⟩
  refine ⟨_, rfl, x, rfl, Nat.le_trans nx.len (by decide), _, _, rfl, rfl, _, rfl, ?_⟩
  rw [decide_eq_true (by have := nx.len; omega : ((x.length : Nat) : Int) ≤ 8)]
  refine iteT ⟨_, rfl, ka, _, rfl, .inr (hk H), rfl, kept_flat, ?_⟩
  rw [not_kept nx.free]
  exact q
end
end Rw

set_option Elab.async false
set_option linter.all false
set_option maxRecDepth 100000
set_option maxHeartbeats 4000000
/-! The methods of parts. -/
namespace Rw
open PySem PySem.Spec PyProof.Rows L2
theorem nf_inner : NotF "inner" := ⟨by decide +kernel, by decide +kernel, by decide +kernel, by decide +kernel⟩
theorem nf_size : NotF "size" := ⟨by decide +kernel, by decide +kernel, by decide +kernel, by decide +kernel⟩
theorem nf_depth : NotF "depth" := ⟨by decide +kernel, by decide +kernel, by decide +kernel, by decide +kernel⟩
theorem nf_gather : NotF "gather" := ⟨by decide +kernel, by decide +kernel, by decide +kernel, by decide +kernel⟩
theorem nf_contacts : NotF "contacts" := ⟨by decide +kernel, by decide +kernel, by decide +kernel, by decide +kernel⟩
theorem nf_bounded : NotF "bounded" := ⟨by decide +kernel, by decide +kernel, by decide +kernel, by decide +kernel⟩
theorem sz {n : Nat} (h : n ≤ 100000) : n < sizeLine := Nat.lt_of_le_of_lt h (by decide)
theorem take_step {α : Type} {xs : List α} {i : Nat} {x : α} (h : xs[i]? = some x) : xs.take (i + 1) = xs.take i ++ [x] := by
  rw [List.take_add_one, h]; rfl
section
variable {P : Program} {w : World} {K : PySem.W.Frag} {mg : Str → Option Value} {base : Heap} {cl : Kd → Addr} {nm : List Str}
/-! ### inner -/
def spInner (cl : Kd → Addr) (nm : List Str) (kd : Kd) : Sp := fun vs H Q _ => ∃ a t, vs = [.ref a] ∧ t.kd = kd ∧ PartAt cl nm H (.ref a) t ∧
  ∀ H' q xs, Same H H' → H' q = some (.tup xs) → PartsAt cl nm H' xs t.kids → Q (.ref q) H'
theorem sc_inner0 : FnScope ["self"] ["self"] (defScope sInner0) := ⟨rfl, rfl, rfl, by decide +kernel, rfl, by decide +kernel, by decide +kernel⟩
theorem sc_innerN : FnScope ["self"] ["self"] (defScope sInnerN) := ⟨rfl, rfl, rfl, by decide +kernel, rfl, by decide +kernel, by decide +kernel⟩
theorem sc_innerG : FnScope ["self"] ["self"] (defScope sInnerG) := ⟨rfl, rfl, rfl, by decide +kernel, rfl, by decide +kernel, by decide +kernel⟩
theorem len_inner {kd : Kd} : ∀ vs H Q E, spInner cl nm kd vs H Q E → vs.length = ["self"].length := fun vs H Q E h => by
  obtain ⟨a, t, rfl, _⟩ := h; rfl
theorem ok_inner0 (T : TxtP K mg cl) (kd : Kd) (hk : kd = .fx ∨ kd = .ct) : Met P w K mg base 1 (cl kd) "inner" (spInner cl nm kd) := by
  refine (T.inner0 kd hk).ok (T.cls kd) sc_inner0 len_inner fun f cdv A outer s H vs Q E hr h => ?_
  obtain ⟨a, t, rfl, hk2, hp, q⟩ := h
  have e : t.kids = [] := by
    cases t with
    | fx b => rfl
    | ct i => rfl
    | nt t => rcases hk with z | z <;> rw [z] at hk2 <;> cases hk2
    | gr b ts => rcases hk with z | z <;> rw [z] at hk2 <;> cases b <;> cases hk2
  refine ⟨_, pss_one (ps_ret (pe_tup pa_nil)), Nat.zero_le _, fun p hp => ?_⟩
  exact q _ p [] (same_new hp _) upd_same (by rw [e]; rfl)
theorem ok_innerN (T : TxtP K mg cl) : Met P w K mg base 1 (cl .nt) "inner" (spInner cl nm .nt) := by
  refine T.innerN.ok (T.cls .nt) sc_innerN len_inner fun f cdv A outer s H vs Q E hr h => ?_
  obtain ⟨a, t, rfl, hk, hp, q⟩ := h
  cases t with
  | fx b => cases hk
  | ct i => cases hk
  | gr b ts => cases b <;> cases hk
  | nt t =>
    obtain ⟨a', dx, v, e, ha, hv⟩ := hp
    cases e
    refine ⟨_, pss_one (ps_ret (pe_tup (pa_cons (pe_fld (pv 0) rfl) pa_nil))), _, rfl, a, _, dx, _, v, rfl, ha, T.cls _, T.nP, lk1 _ _ _, (by show 1 ≤ sizeLine; decide), fun p hp => ?_⟩
    exact q _ p [v] (same_new hp _) upd_same (PartsAt.one (hv.ext (S := []) (.new hp _)))
theorem nS_of (T : TxtP K mg cl) {kd : Kd} (hk : kd = .se ∨ kd = .br) : NoAttr K (cl kd) "parts" := by
  rcases hk with rfl | rfl
  · exact T.nS
  · exact T.nB
theorem ok_innerG (T : TxtP K mg cl) (kd : Kd) (hk : kd = .se ∨ kd = .br) : Met P w K mg base 1 (cl kd) "inner" (spInner cl nm kd) := by
  refine (T.innerG kd hk).ok (T.cls kd) sc_innerG len_inner fun f cdv A outer s H vs Q E hr h => ?_
  obtain ⟨a, t, rfl, hk2, hp, q⟩ := h
  cases t with
  | fx b => rcases hk with z | z <;> rw [z] at hk2 <;> cases hk2
  | ct i => rcases hk with z | z <;> rw [z] at hk2 <;> cases hk2
  | nt t => rcases hk with z | z <;> rw [z] at hk2 <;> cases hk2
  | gr b ts =>
    obtain ⟨a', dx, p, xs, e, ha, hx, hv⟩ := hp
    cases e
    refine ⟨_, pss_one (ps_ret (pe_fld (pv 0) rfl)), _, rfl, a, _, dx, _, .ref p, rfl, ha, T.cls _, ?_, lk1 _ _ _, q H p xs (Same.refl H) hx hv⟩
    rw [hk2]
    exact nS_of T hk
theorem ok_inner (T : TxtP K mg cl) : ∀ kd, Met P w K mg base 1 (cl kd) "inner" (spInner cl nm kd)
  | .fx => ok_inner0 T .fx (.inl rfl)
  | .ct => ok_inner0 T .ct (.inr rfl)
  | .nt => ok_innerN T
  | .se => ok_innerG T .se (.inl rfl)
  | .br => ok_innerG T .br (.inr rfl)
/-! ### size -/
def spSize (cl : Kd → Addr) (nm : List Str) (d : Nat) (kd : Kd) : Sp := fun vs H Q _ => ∃ a t, vs = [.ref a] ∧ t.kd = kd ∧ t.depth ≤ d ∧ t.size ≤ 1000 ∧ PartAt cl nm H (.ref a) t ∧
  ∀ H', Same H H' → Q (.int (t.size : Nat)) H'
theorem sc_size : FnScope ["self", "part"] ["self"] (defScope sSize) := ⟨rfl, rfl, rfl, by decide +kernel, rfl, by decide +kernel, by decide +kernel⟩
theorem boot_sum : bootBuiltins "sum" = some (.builtin "sum") := by decide +kernel
theorem size_step (T : TxtP K mg cl) {k d : Nat} (hk : 1 ≤ k) (ih : ∀ kd, Met P w K mg base k (cl kd) "size" (spSize cl nm d kd)) (kd : Kd) : Met P w K mg base (k + 1) (cl kd) "size" (spSize cl nm (d + 1) kd) := by
  refine (T.size kd).ok (T.cls kd) sc_size (fun vs H Q E h => ?_) fun f cdv A outer s H vs Q E hr h => ?_
  · obtain ⟨a, t, rfl, _⟩ := h; rfl
  obtain ⟨a, t, rfl, rfl, hd, hs, hp, q⟩ := h
  refine ⟨_, pss_one (ps_ret (pe_op op_add pe_int (pe_callB (cr_sum rfl) (by rfl) T.sum boot_sum (pa_cons
    (pe_lc (own := [("part", 1)]) (g := gName 1) (tt := tYes) rfl sc_size.nd (pi_tup (pe_exs fun kd => qm0 (ok_inner (nm := nm) T kd) hr hk (pv 0)))
      (blkOk_by (own := [("part", 1)]) (N := ["self", "part"]) (sc := defScope sSize) (by decide +kernel)) (fun _ _ _ _ _ => pg_name (i := 1) sc_size.nd rfl (Or.inl rfl)) (fun _ _ _ _ _ => pts_nil)
      (fun _ _ _ _ _ => pe_exs fun kd => qm0 (ih kd) hr (Nat.le_refl _) (pv 1))) pa_nil)))), ?_⟩
  obtain ⟨a', dx, fs, ea, ha, nof⟩ := hp.ins
  cases ea
  refine ⟨t.kd, _, rfl, a, dx, fs, rfl, ha, nof _ nf_inner, a, t, rfl, rfl, hp, fun H1 p xs s1 h1 hx => ?_⟩
  refine ⟨p, rfl, ⟨xs, SqT.of h1⟩, fun D hD => ?_⟩
  have hl := hx.len
  have kl := kids_len t
  refine lc_tup (K := K) (a := p) (xs := xs) (fun i H' => Same H1 H' ∧ H' D = some (.lst (((t.kids.take i).map fun u => ((u.size : Nat) : Int)).map V.int))) ⟨same_new hD _, upd_same⟩ (fun i H' _ h => SqT.of (h.1 _ _ h1)) ?_ ?_
  · rintro i x H' ex ⟨s2, hD2⟩
    obtain ⟨u, eu, hu⟩ := hx.get ex
    have hu2 := hu.ext (S := []) (.same s2)
    obtain ⟨b, dy, gs, rfl, hb, nog⟩ := hu2.ins
    have mem := List.mem_of_getElem? eu
    have e1 := depths_mem mem
    have e2 := sizes_mem mem
    have e3 := kids_depth t
    have e4 := kids_size t
    refine ⟨rfl, ?_⟩
    refine ⟨u.kd, _, rfl, b, dy, gs, rfl, hb, nog _ nf_size, b, u, rfl, rfl, by omega, by omega, hu2, fun H2 s3 => ?_⟩
    refine ⟨_, s3 _ _ hD2, ?_, ?_, ?_⟩
    · rw [List.length_map, List.length_map, List.length_take]; exact sz (by omega)
    · intro c o e
      rw [upd_ne (ne_of_none e hD)]
      exact s3 _ _ (s2 _ _ e)
    · rw [upd_same, take_step eu, List.map_append, List.map_append]; rfl
  · rintro H' ⟨s2, hD2⟩
    rw [hl, List.take_length] at hD2
    refine ⟨D, _, rfl, SqL.of hD2, _, _, rfl, rfl, ?_⟩
    rw [sizes_sum]
    have e4 := kids_size t
    show Q (.int (1 + ((sizes t.kids : Nat) : Int))) H'
    rw [show (1 : Int) + ((sizes t.kids : Nat) : Int) = ((t.size : Nat) : Int) by omega]
    exact q H' (s1.trans s2)
theorem ok_size (T : TxtP K mg cl) : ∀ (d : Nat) (kd : Kd), Met P w K mg base (d + 1) (cl kd) "size" (spSize cl nm d kd)
  | 0, kd => MetAt.never (T.cls kd) (T.size kd) sc_size fun vs H Q E ⟨a, t, _, _, hd, _⟩ => by have := t.depth_pos; omega
  | d + 1, kd => size_step T (Nat.le_add_left 1 d) (ok_size T d) kd
/-! ### depth -/
def spDepth (cl : Kd → Addr) (nm : List Str) (d : Nat) (kd : Kd) : Sp := fun vs H Q _ => ∃ a t, vs = [.ref a] ∧ t.kd = kd ∧ t.depth ≤ d ∧ t.size ≤ 1000 ∧ PartAt cl nm H (.ref a) t ∧
  ∀ H', Same H H' → Q (.int (t.depth : Nat)) H'
theorem sc_depth : FnScope ["self", "part"] ["self"] (defScope sDepth) := ⟨rfl, rfl, rfl, by decide +kernel, rfl, by decide +kernel, by decide +kernel⟩
theorem boot_max' : bootBuiltins "max" = some (.builtin "max") := by decide +kernel
theorem depth_step (T : TxtP K mg cl) {k d : Nat} (hk : 1 ≤ k) (ih : ∀ kd, Met P w K mg base k (cl kd) "depth" (spDepth cl nm d kd)) (kd : Kd) : Met P w K mg base (k + 1) (cl kd) "depth" (spDepth cl nm (d + 1) kd) := by
  refine (T.depth kd).ok (T.cls kd) sc_depth (fun vs H Q E h => ?_) fun f cdv A outer s H vs Q E hr h => ?_
  · obtain ⟨a, t, rfl, _⟩ := h; rfl
  obtain ⟨a, t, rfl, rfl, hd, hs, hp, q⟩ := h
  refine ⟨_, pss_one (ps_ret (pe_op op_add pe_int (pe_callB (cr_max rfl) (by rfl) T.max boot_max' (pa_cons (pe_op op_cat (pe_lst (pa_cons pe_int pa_nil))
    (pe_lc (own := [("part", 1)]) (g := gName 1) (tt := tYes) rfl sc_depth.nd (pi_tup (pe_exs fun kd => qm0 (ok_inner (nm := nm) T kd) hr hk (pv 0)))
      (blkOk_by (own := [("part", 1)]) (N := ["self", "part"]) (sc := defScope sDepth) (by decide +kernel)) (fun _ _ _ _ _ => pg_name (i := 1) sc_depth.nd rfl (Or.inl rfl)) (fun _ _ _ _ _ => pts_nil)
      (fun _ _ _ _ _ => pe_exs fun kd => qm0 (ih kd) hr (Nat.le_refl _) (pv 1)))) pa_nil)))), ?_⟩
  refine ⟨(by show 1 ≤ sizeLine; decide), fun l hl0 => ?_⟩
  have s0 : Same H (upd H l (.lst [.int 0])) := same_new hl0 _
  have hp0 := hp.ext (S := []) (.same s0)
  obtain ⟨a', dx, fs, ea, ha, nof⟩ := hp0.ins
  cases ea
  refine ⟨t.kd, _, rfl, a, dx, fs, rfl, ha, nof _ nf_inner, a, t, rfl, rfl, hp0, fun H1 p xs s1 h1 hx => ?_⟩
  refine ⟨p, rfl, ⟨xs, SqT.of h1⟩, fun D hD => ?_⟩
  have hl := hx.len
  have kl := kids_len t
  refine lc_tup (K := K) (a := p) (xs := xs) (fun i H' => Same H1 H' ∧ H' D = some (.lst (((t.kids.take i).map fun u => ((u.depth : Nat) : Int)).map V.int))) ⟨same_new hD _, upd_same⟩ (fun i H' _ h => SqT.of (h.1 _ _ h1)) ?_ ?_
  · rintro i x H' ex ⟨s2, hD2⟩
    obtain ⟨u, eu, hu⟩ := hx.get ex
    have hu2 := hu.ext (S := []) (.same s2)
    obtain ⟨b, dy, gs, rfl, hb, nog⟩ := hu2.ins
    have mem := List.mem_of_getElem? eu
    have e1 := depths_mem mem
    have e2 := sizes_mem mem
    have e3 := kids_depth t
    have e4 := kids_size t
    refine ⟨rfl, ?_⟩
    refine ⟨u.kd, _, rfl, b, dy, gs, rfl, hb, nog _ nf_depth, b, u, rfl, rfl, by omega, by omega, hu2, fun H2 s3 => ?_⟩
    refine ⟨_, s3 _ _ hD2, ?_, ?_, ?_⟩
    · rw [List.length_map, List.length_map, List.length_take]; exact sz (by omega)
    · intro c o e
      rw [upd_ne (ne_of_none e hD)]
      exact s3 _ _ (s2 _ _ e)
    · rw [upd_same, take_step eu, List.map_append, List.map_append]; rfl
  · rintro H' ⟨s2, hD2⟩
    rw [hl, List.take_length] at hD2
    refine ⟨l, D, _, _, rfl, rfl, s2 _ _ (s1 _ _ upd_same), hD2, ?_, fun m hm => ?_⟩
    · rw [List.length_map, List.length_map, List.length_singleton]; exact Nat.le_of_lt (sz (by omega))
    refine ⟨m, (0 : Int) :: t.kids.map fun u => ((u.depth : Nat) : Int), rfl, SqL.of (by rw [upd_same]; rfl), by rw [List.length_cons]; omega, fun x h1 h2 => ?_⟩
    have ex := depths_max h1 h2
    have e4 := kids_depth t
    refine ⟨_, _, rfl, rfl, ?_⟩
    show Q (.int (1 + x)) _
    rw [show (1 : Int) + x = ((t.depth : Nat) : Int) by omega]
    exact q _ (s0.trans (s1.trans (s2.trans (same_new hm _))))
theorem ok_depth (T : TxtP K mg cl) : ∀ (d : Nat) (kd : Kd), Met P w K mg base (d + 1) (cl kd) "depth" (spDepth cl nm d kd)
  | 0, kd => MetAt.never (T.cls kd) (T.depth kd) sc_depth fun vs H Q E ⟨a, t, _, _, hd, _⟩ => by have := t.depth_pos; omega
  | d + 1, kd => depth_step T (Nat.le_add_left 1 d) (ok_depth T d) kd
/-! ### gather, contacts -/
def KeysIn (nm : List Str) (kvs : List (Key × V)) : Prop := ∀ p ∈ kvs, ∃ x ∈ nm, p.1 = Sum.inr x
theorem keysIn_put {nm : List Str} {kvs : List (Key × V)} {x : Str} (v : V) (h : KeysIn nm kvs) (hx : x ∈ nm) : KeysIn nm (putK kvs (Sum.inr x) v) ∧ (putK kvs (Sum.inr x) v).length ≤ kvs.length + 1 := by
  unfold putK
  split
  · refine ⟨fun p hp => ?_, by rw [List.length_map]; omega⟩
    obtain ⟨q, hq, e⟩ := List.mem_map.mp hp
    obtain ⟨y, hy, ey⟩ := h q hq
    by_cases z : q.1 = Sum.inr x
    · rw [if_pos z] at e; rw [← e]; exact ⟨y, hy, ey⟩
    · rw [if_neg z] at e; rw [← e]; exact ⟨y, hy, ey⟩
  · refine ⟨fun p hp => ?_, by rw [List.length_append, List.length_singleton]; omega⟩
    rcases List.mem_append.mp hp with z | z
    · exact h p z
    · rw [List.mem_singleton.mp z]; exact ⟨x, hx, rfl⟩
def spGather (cl : Kd → Addr) (nm : List Str) (d : Nat) (kd : Kd) : Sp := fun vs H Q _ => ∃ a t D kvs, vs = [.ref a, .ref D] ∧ t.kd = kd ∧ t.depth ≤ d ∧ PartAt cl nm H (.ref a) t ∧ H D = some (.dK kvs) ∧ KeysIn nm kvs ∧ kvs.length + t.size ≤ 1000 ∧
  ∀ H' kvs', Ext [D] H H' → H' D = some (.dK kvs') → KeysIn nm kvs' → kvs'.length ≤ kvs.length + t.size → Q .non H'
theorem len_gather {d : Nat} {kd : Kd} : ∀ vs H Q E, spGather cl nm d kd vs H Q E → vs.length = ["self", "found"].length := fun vs H Q E h => by
  obtain ⟨a, t, D, kvs, rfl, _⟩ := h; rfl
theorem sc_gatherC : FnScope ["self", "found"] ["self", "found"] (defScope sGatherC) := ⟨rfl, rfl, rfl, by decide +kernel, rfl, by decide +kernel, by decide +kernel⟩
theorem sc_gather0 : FnScope ["self", "found", "part"] ["self", "found"] (defScope sGather0) := ⟨rfl, rfl, rfl, by decide +kernel, rfl, by decide +kernel, by decide +kernel⟩
theorem ok_gatherC (T : TxtP K mg cl) (d : Nat) : Met P w K mg base 1 (cl .ct) "gather" (spGather cl nm d .ct) := by
  refine T.gatherC.ok (T.cls .ct) sc_gatherC len_gather fun f cdv A outer s H vs Q E hr h => ?_
  obtain ⟨a, t, D, kvs, rfl, hk, hd, hp, hD, ki, hl, q⟩ := h
  cases t with
  | fx b => cases hk
  | nt t => cases hk
  | gr b ts => cases b <;> cases hk
  | ct i =>
    obtain ⟨a', dx, x, e, ha, hx⟩ := hp
    cases e
    refine ⟨_, pss_one (ps_dput (hu_of hr) (pv 1) (pe_fld (pv 0) rfl) pe_bl rfl), _, rfl, _, rfl, a, _, dx, _, _, rfl, ha, T.cls _, T.nN, lk1 _ _ _, ?_⟩
    obtain ⟨k1, k2⟩ := keysIn_put (.bl true) ki (List.mem_of_getElem? hx)
    refine ⟨D, _, rfl, DPut.k (k := Sum.inr x) hD (sz (by omega)), q _ _ (.put hD rfl (List.mem_singleton.mpr rfl)) upd_same k1 ?_⟩
    show _ ≤ kvs.length + 1
    exact k2
theorem gather_step (T : TxtP K mg cl) {k d : Nat} (hk : 1 ≤ k) (ih : ∀ kd, Met P w K mg base k (cl kd) "gather" (spGather cl nm d kd)) (kd : Kd) (hc : kd ≠ .ct) : Met P w K mg base (k + 1) (cl kd) "gather" (spGather cl nm (d + 1) kd) := by
  refine (T.gather0 kd hc).ok (T.cls kd) sc_gather0 len_gather fun f cdv A outer s H vs Q E hr h => ?_
  obtain ⟨a, t, D, kvs, rfl, rfl, hd, hp, hD, ki, hl, q⟩ := h
  refine ⟨_, pss_one (ps_for PassesOwn.never rfl (pi_tup (pe_exs fun kd => qm0 (ok_inner (nm := nm) T kd) hr hk (pv 0))) (pg_name (i := 2) sc_gather0.nd rfl (Or.inl rfl))
    (pss_one (ps_expr (pe_exs fun kd => qm (ih kd) hr (Nat.le_refl _) (pv 2) (pa_cons (pv 1) pa_nil))))), ?_⟩
  obtain ⟨a', dx, fs, ea, ha, nof⟩ := hp.ins
  cases ea
  refine ⟨t.kd, _, rfl, a, dx, fs, rfl, ha, nof _ nf_inner, a, t, rfl, rfl, hp, fun H1 p xs s1 h1 hx => ?_⟩
  have hl2 := hx.len
  have e4 := kids_size t
  refine ⟨p, rfl, ⟨xs, SqT.of h1⟩, for_tup (K := K) (a := p) (xs := xs) (fun i σ H' => Ext [D] H1 H' ∧ ∃ kvs' o, σ = [some (.ref a), some (.ref D), o] ∧ H' D = some (.dK kvs') ∧ KeysIn nm kvs' ∧ kvs'.length ≤ kvs.length + sizes (t.kids.take i))
    ⟨.refl, kvs, none, rfl, s1 _ _ hD, ki, Nat.le_add_right _ _⟩ (fun i σ H' _ h => SqT.of (h.1.tup h1)) ?_ ?_⟩
  · rintro i x σ H' ex ⟨s2, kvs', o, rfl, hD2, ki2, hl3⟩
    obtain ⟨u, eu, hu⟩ := hx.get ex
    have hu2 := hu.ext s2
    obtain ⟨b, dy, gs, rfl, hb, nog⟩ := hu2.ins
    have mem := List.mem_of_getElem? eu
    have e1 := depths_mem mem
    have e3 := kids_depth t
    have e5 : sizes (t.kids.take (i + 1)) = sizes (t.kids.take i) + u.size := by
      rw [take_step eu, sizes_app]; rfl
    have e6 : sizes (t.kids.take (i + 1)) ≤ sizes t.kids := by
      have := sizes_app (t.kids.take (i + 1)) (t.kids.drop (i + 1))
      rw [List.take_append_drop] at this
      omega
    refine ⟨u.kd, _, rfl, b, dy, gs, rfl, hb, nog _ nf_gather, _, rfl, b, u, D, kvs', rfl, rfl, by omega, hu2, hD2, ki2, by omega, fun H2 kvs2 s3 hD3 ki3 hl4 => ?_⟩
    exact ⟨s2.trans s3, kvs2, _, rfl, hD3, ki3, by omega⟩
  · rintro σ H' ⟨s2, kvs', o, rfl, hD2, ki2, hl3⟩
    rw [hl2, List.take_length] at hl3
    exact q H' kvs' ((Ext.same s1).trans s2) hD2 ki2 (by omega)
theorem ok_gather (T : TxtP K mg cl) : ∀ (d : Nat) (kd : Kd), Met P w K mg base (d + 1) (cl kd) "gather" (spGather cl nm d kd)
  | d, .ct => (ok_gatherC T d).mono (Nat.le_add_left 1 d)
  | 0, .fx => MetAt.never (T.cls .fx) (T.gather0 .fx (by decide)) sc_gather0 fun vs H Q E ⟨a, t, _, _, _, _, hd, _⟩ => by have := t.depth_pos; omega
  | 0, .nt => MetAt.never (T.cls .nt) (T.gather0 .nt (by decide)) sc_gather0 fun vs H Q E ⟨a, t, _, _, _, _, hd, _⟩ => by have := t.depth_pos; omega
  | 0, .se => MetAt.never (T.cls .se) (T.gather0 .se (by decide)) sc_gather0 fun vs H Q E ⟨a, t, _, _, _, _, hd, _⟩ => by have := t.depth_pos; omega
  | 0, .br => MetAt.never (T.cls .br) (T.gather0 .br (by decide)) sc_gather0 fun vs H Q E ⟨a, t, _, _, _, _, hd, _⟩ => by have := t.depth_pos; omega
  | d + 1, .fx => gather_step T (Nat.le_add_left 1 d) (ok_gather T d) .fx (by decide)
  | d + 1, .nt => gather_step T (Nat.le_add_left 1 d) (ok_gather T d) .nt (by decide)
  | d + 1, .se => gather_step T (Nat.le_add_left 1 d) (ok_gather T d) .se (by decide)
  | d + 1, .br => gather_step T (Nat.le_add_left 1 d) (ok_gather T d) .br (by decide)
def spContacts (cl : Kd → Addr) (nm : List Str) (kd : Kd) : Sp := fun vs H Q _ => ∃ a t, vs = [.ref a] ∧ t.kd = kd ∧ t.depth ≤ 20 ∧ t.size ≤ 60 ∧ PartAt cl nm H (.ref a) t ∧
  ∀ H' q (xs : List Str), Same H H' → H' q = some (.tup (xs.map V.str)) → (∀ x ∈ xs, x ∈ nm) → Q (.ref q) H'
theorem sc_contacts : FnScope ["self", "found"] ["self"] (defScope sContacts) := ⟨rfl, rfl, rfl, by decide +kernel, rfl, by decide +kernel, by decide +kernel⟩
theorem boot_tuple' : bootBuiltins "tuple" = some (.type "tuple") := by decide +kernel
theorem keys_texts {nm : List Str} : ∀ {kvs : List (Key × V)}, KeysIn nm kvs → ∃ xs : List Str, (kvs.map fun p => kV p.1) = xs.map V.str ∧ ∀ x ∈ xs, x ∈ nm
  | [], _ => ⟨[], rfl, fun _ h => by cases h⟩
  | p :: r, h => by
    obtain ⟨xs, e, m⟩ := keys_texts (kvs := r) fun z hz => h z (List.mem_cons_of_mem _ hz)
    obtain ⟨x, hx, ex⟩ := h p List.mem_cons_self
    refine ⟨x :: xs, by rw [List.map_cons, List.map_cons, e, ex]; rfl, fun y hy => ?_⟩
    rcases List.mem_cons.mp hy with rfl | hy
    · exact hx
    · exact m y hy
theorem ok_contacts (T : TxtP K mg cl) (kd : Kd) : Met P w K mg base 22 (cl kd) "contacts" (spContacts cl nm kd) := by
  refine (T.contacts kd).ok (T.cls kd) sc_contacts (fun vs H Q E h => ?_) fun f cdv A outer s H vs Q E hr h => ?_
  · obtain ⟨a, t, rfl, _⟩ := h; rfl
  obtain ⟨a, t, rfl, rfl, hd, hs, hp, q⟩ := h
  refine ⟨_, pss_cons (ps_set (i := 1) sc_contacts.nd rfl (Or.inl rfl) pe_dnewK) (pss_cons (ps_expr (pe_exs fun kd => qm (ok_gather (nm := nm) T 20 kd) hr (Nat.le_refl _) (pv 0) (pa_cons (pv 1) pa_nil)))
    (pss_one (ps_ret (pe_callTy (call_tupKeys rfl) (by rfl) T.tuple boot_tuple' (pa_cons (pe_bm0 PySem.F.plainAttrs_dict PySem.F.slot_dict_keys PySem.F.type_dict_keys mt_keys (pv 1)) pa_nil))))), ?_⟩
  intro D hD
  have s0 : Same H (upd H D (.dK [])) := same_new hD _
  have hp0 := hp.ext (S := []) (.same s0)
  obtain ⟨a', dx, fs, ea, ha, nof⟩ := hp0.ins
  cases ea
  refine ⟨t.kd, _, rfl, a, dx, fs, rfl, ha, nof _ nf_gather, _, rfl, a, t, D, [], rfl, rfl, hd, hp0, upd_same, (fun p hp => by cases hp), by simp; omega, fun H1 kvs s1 h1 ki hl => ?_⟩
  refine ⟨_, rfl, .inr (.inr (.inl ⟨rfl, .inl ⟨kvs, h1⟩⟩)), D, kvs, rfl, rfl, h1, fun v hv => ?_⟩
  have hDv : D ≠ v := ne_of_none h1 hv
  refine ⟨v, D, kvs, rfl, upd_same, (by rw [upd_ne hDv]; exact h1), fun z hz => ?_⟩
  obtain ⟨xs, ex, mx⟩ := keys_texts ki
  have sA : Same H H1 := ((Ext.same s0).trans s1).drop hD |>.whole
  refine q _ z xs (sA.trans ((same_new hv _).trans (same_new hz _))) (by rw [upd_same, ex]) mx
/-! ### bounded -/
def spBounded (cl : Kd → Addr) (nm : List Str) (kd : Kd) : Sp := fun vs H Q _ => ∃ a t, vs = [.ref a] ∧ t.kd = kd ∧ t.depth ≤ 20 ∧ t.size ≤ 60 ∧ PartAt cl nm H (.ref a) t ∧
  ∀ H', Same H H' → Q .non H'
theorem sc_bounded : FnScope ["self"] ["self"] (defScope sBounded) := ⟨rfl, rfl, rfl, by decide +kernel, rfl, by decide +kernel, by decide +kernel⟩
theorem ok_bounded (T : TxtP K mg cl) (kd : Kd) : Met P w K mg base 22 (cl kd) "bounded" (spBounded cl nm kd) := by
  refine (T.bounded kd).ok (T.cls kd) sc_bounded (fun vs H Q E h => ?_) fun f cdv A outer s H vs Q E hr h => ?_
  · obtain ⟨a, t, rfl, _⟩ := h; rfl
  obtain ⟨a, t, rfl, rfl, hd, hs, hp, q⟩ := h
  refine ⟨_, pss_one (ps_if (PW.pt (pw_or (pt_cmpR op_gt (pe_exs fun kd => qm0 (ok_size (nm := nm) T 20 kd) hr (Nat.le_refl _) (pv 0)) (pe_gc T.MSIZE) (nomark _))
    (pw_or1 (pt_cmpR op_gt (pe_exs fun kd => qm0 (ok_depth (nm := nm) T 20 kd) hr (Nat.le_refl _) (pv 0)) (pe_gc T.MDEEP) (nomark _))))) (pss_one ps_never) pss_nil), ?_⟩
  obtain ⟨a', dx, fs, ea, ha, nof⟩ := hp.ins
  cases ea
  refine ⟨t.kd, _, rfl, a, dx, fs, rfl, ha, nof _ nf_size, a, t, rfl, rfl, hd, by omega, hp, fun H1 s1 => ?_⟩
  refine ⟨_, _, rfl, rfl, _, rfl, ?_⟩
  rw [decide_eq_false (by omega : ¬ (60 : Int) < ((t.size : Nat) : Int))]
  refine ⟨t.kd, _, rfl, a, dx, fs, rfl, s1 _ _ ha, nof _ nf_depth, a, t, rfl, rfl, hd, by omega, hp.ext (S := []) (.same s1), fun H2 s2 => ?_⟩
  refine ⟨_, _, rfl, rfl, _, rfl, ?_⟩
  rw [decide_eq_false (by omega : ¬ (20 : Int) < ((t.depth : Nat) : Int))]
  exact q H2 (s1.trans s2)
end
end Rw

set_option Elab.async false
set_option linter.all false
set_option maxRecDepth 100000
set_option maxHeartbeats 4000000
/-! Parts are made: the __init__s, single, joined. -/
namespace Rw
open PySem PySem.Spec PyProof.Rows L2
section
variable {P : Program} {w : World} {K : PySem.W.Frag} {mg : Str → Option Value} {base : Heap} {cl : Kd → Addr} {nm : List Str}
/-- behind an __init__: the new part stands, all else is as it was -/
abbrev Made (H H' : Hp) (p : Addr) : Prop := ∀ b o, H b = some o → b ≠ p → H' b = some o
def spFx (cl : Kd → Addr) : Sp := fun vs H Q _ => ∃ p dx b, vs = [.ref p, .bl b] ∧ H p = some (.ins (cl .fx) dx []) ∧ ∀ H', H' p = some (.ins (cl .fx) dx [("value", .bl b)]) → Made H H' p → Q .non H'
theorem sc_fx : FnScope ["self", "value"] ["self", "value"] (defScope sFxInit) := ⟨rfl, rfl, rfl, by decide +kernel, rfl, by decide +kernel, by decide +kernel⟩
theorem ok_fx (T : TxtP K mg cl) : Mak P w K mg base 1 "Fixed" (cl .fx) (spFx cl) := by
  refine T.mkFx.ok sc_fx (fun vs H Q E h => ?_) fun f cdv A outer s H vs Q E hr h => ?_
  · obtain ⟨p, dx, b, rfl, _⟩ := h; rfl
  obtain ⟨p, dx, b, rfl, hp, q⟩ := h
  refine ⟨_, pss_one (ps_fld (pv 0) (pv 1) rfl), _, rfl, _, rfl, p, _, dx, [], rfl, hp, T.cls _, T.nV, (by show 0 < 1000; decide), ?_⟩
  exact q _ upd_same fun b o e n => by rw [upd_ne n]; exact e
def spCt (cl : Kd → Addr) : Sp := fun vs H Q _ => ∃ p dx x, vs = [.ref p, .str x] ∧ IsNm x ∧ H p = some (.ins (cl .ct) dx []) ∧ ∀ H', H' p = some (.ins (cl .ct) dx [("name", .str x)]) → Made H H' p → Q .non H'
theorem sc_ct : FnScope ["self", "name"] ["self", "name"] (defScope sCtInit) := ⟨rfl, rfl, rfl, by decide +kernel, rfl, by decide +kernel, by decide +kernel⟩
theorem ok_ct (T : TxtP K mg cl) : Mak P w K mg base 3 "Contact" (cl .ct) (spCt cl) := by
  refine T.mkCt.ok sc_ct (fun vs H Q E h => ?_) fun f cdv A outer s H vs Q E hr h => ?_
  · obtain ⟨p, dx, x, rfl, _⟩ := h; rfl
  obtain ⟨p, dx, x, rfl, nx, hp, q⟩ := h
  refine ⟨_, pss_cons (ps_if (pt_not (pt_val (qc (ok_isName T) hr (Nat.le_refl _) (pa_cons (pv 1) pa_nil)))) (pss_one ps_never) pss_nil)
    (pss_one (ps_fld (pv 0) (pv 1) rfl)), ?_⟩
  refine ⟨_, rfl, x, rfl, nx, true, rfl, ?_⟩
  refine ⟨_, rfl, _, rfl, p, _, dx, [], rfl, hp, T.cls _, T.nN, (by show 0 < 1000; decide), ?_⟩
  exact q _ upd_same fun b o e n => by rw [upd_ne n]; exact e
def spNt (cl : Kd → Addr) (nm : List Str) : Sp := fun vs H Q _ => ∃ p dx v t, vs = [.ref p, v] ∧ PartAt cl nm H v t ∧ t.size + 1 ≤ 60 ∧ t.depth + 1 ≤ 20 ∧ H p = some (.ins (cl .nt) dx []) ∧
  ∀ H', H' p = some (.ins (cl .nt) dx [("part", v)]) → Made H H' p → Q .non H'
theorem sc_nt : FnScope ["self", "part"] ["self", "part"] (defScope sNtInit) := ⟨rfl, rfl, rfl, by decide +kernel, rfl, by decide +kernel, by decide +kernel⟩
theorem ok_nt (T : TxtP K mg cl) : Mak P w K mg base 23 "Turned" (cl .nt) (spNt cl nm) := by
  refine T.mkNt.ok sc_nt (fun vs H Q E h => ?_) fun f cdv A outer s H vs Q E hr h => ?_
  · obtain ⟨p, dx, v, t, rfl, _⟩ := h; rfl
  obtain ⟨p, dx, v, t, rfl, hv, hs, hd, hp, q⟩ := h
  refine ⟨_, pss_cons (ps_fld (pv 0) (pv 1) rfl) (pss_one (ps_expr (qm0 (ok_bounded (nm := nm) T .nt) hr (Nat.le_refl _) (pv 0)))), ?_⟩
  refine ⟨_, rfl, _, rfl, p, _, dx, [], rfl, hp, T.cls _, T.nP, (by show 0 < 1000; decide), ?_⟩
  have ex : Ext [p] H (upd H p (.ins (cl .nt) dx [("part", v)])) := .put hp rfl (List.mem_singleton.mpr rfl)
  have whole : PartAt cl nm (upd H p (.ins (cl .nt) dx [("part", v)])) (.ref p) (.nt t) := ⟨p, dx, v, rfl, upd_same, hv.ext ex⟩
  refine ⟨_, rfl, p, dx, _, rfl, upd_same, lk0 _ nf_bounded.c, p, .nt t, rfl, rfl, ?_, ?_, whole, fun H' s1 => ?_⟩
  · show 1 + t.depth ≤ 20; omega
  · show 1 + t.size ≤ 60; omega
  · exact q _ (s1 _ _ upd_same) fun b o e n => s1 _ _ (by rw [upd_ne n]; exact e)
def spGr (cl : Kd → Addr) (nm : List Str) (kd : Kd) : Sp := fun vs H Q _ => ∃ p dx l xs ts, vs = [.ref p, .ref l] ∧ H l = some (.lst xs) ∧ PartsAt cl nm H xs ts ∧ 2 ≤ ts.length ∧ sizes ts + 1 ≤ 60 ∧ depths ts + 1 ≤ 20 ∧ H p = some (.ins (cl kd) dx []) ∧
  ∀ H' z, H' p = some (.ins (cl kd) dx [("parts", .ref z)]) → H' z = some (.tup xs) → Made H H' p → Q .non H'
theorem sc_gr : FnScope ["self", "parts"] ["self", "parts"] (defScope sGrInit) := ⟨rfl, rfl, rfl, by decide +kernel, rfl, by decide +kernel, by decide +kernel⟩
theorem gr_body (T : TxtP K mg cl) (b : Bool) (qual : Str) (hq : qual = "Group.__init__") : Body P w K mg base 22 qual sGrInit ["self", "parts"] (spGr cl nm (Tl.gr b []).kd) := by
  subst hq
  intro f cdv A outer s H vs Q E hr h
  obtain ⟨p, dx, l, xs, ts, rfl, hl, hx, h2, hs, hd, hp, q⟩ := h
  have hn : NoAttr K (cl (Tl.gr b []).kd) "parts" := by cases b; exact T.nB; exact T.nS
  refine ⟨_, pss_cons (ps_if (pt_cmpR op_lt (pe_callB call_len_seq (by rfl) T.len PySem.boot_len (pa_cons (pv 1) pa_nil)) pe_int (nomark _)) (pss_one ps_never) pss_nil)
    (pss_cons (ps_fld (pv 0) (pe_callTy call_tuple_of (by rfl) T.tuple boot_tuple' (pa_cons (pv 1) pa_nil)) rfl)
    (pss_one (ps_expr (qm0 (ok_bounded (nm := nm) T (Tl.gr b []).kd) hr (Nat.le_refl _) (pv 0))))), ?_⟩
  have hlen := hx.len
  refine ⟨_, rfl, l, _, rfl, .inl (SqL.of hl), _, _, rfl, rfl, _, rfl, ?_⟩
  rw [decide_eq_false (by omega : ¬ ((xs.length : Nat) : Int) < 2)]
  refine ⟨_, rfl, l, xs, rfl, .inl ⟨SqL.of hl, fun z hz => ?_⟩⟩
  have zp : p ≠ z := ne_of_none hp hz
  refine ⟨_, rfl, p, _, dx, [], rfl, (by rw [upd_ne zp]; exact hp), T.cls _, hn, (by show 0 < 1000; decide), ?_⟩
  have e1 : Ext [p] H (upd H z (.tup xs)) := .new hz _
  have e2 : Ext [p] (upd H z (.tup xs)) (upd (upd H z (.tup xs)) p (.ins (cl (Tl.gr b []).kd) dx [("parts", .ref z)])) := .put (by rw [upd_ne zp]; exact hp) rfl (List.mem_singleton.mpr rfl)
  have whole : PartAt cl nm (upd (upd H z (.tup xs)) p (.ins (cl (Tl.gr b []).kd) dx [("parts", .ref z)])) (.ref p) (.gr b ts) :=
    ⟨p, dx, z, xs, rfl, by rw [upd_same]; cases b <;> rfl, by rw [upd_ne zp.symm, upd_same], hx.ext (e1.trans e2)⟩
  refine ⟨_, rfl, p, dx, _, rfl, upd_same, lk0 _ nf_bounded.d, p, .gr b ts, rfl, by cases b <;> rfl, ?_, ?_, whole, fun H' s1 => ?_⟩
  · show 1 + depths ts ≤ 20; omega
  · show 1 + sizes ts ≤ 60; omega
  · exact q _ z (s1 _ _ upd_same) (s1 _ _ (by rw [upd_ne zp.symm, upd_same])) fun c o e n => s1 _ _ (by rw [upd_ne n, upd_ne (ne_of_none e hz)]; exact e)
theorem len_gr {kd : Kd} : ∀ vs H Q E, spGr cl nm kd vs H Q E → vs.length = ["self", "parts"].length := fun vs H Q E h => by
  obtain ⟨p, dx, l, xs, ts, rfl, _⟩ := h; rfl
theorem ok_se (T : TxtP K mg cl) : Mak P w K mg base 23 "Series" (cl .se) (spGr cl nm .se) := T.mkSe.ok sc_gr len_gr (gr_body T true _ rfl)
theorem ok_br (T : TxtP K mg cl) : Mak P w K mg base 23 "Branch" (cl .br) (spGr cl nm .br) := T.mkBr.ok sc_gr len_gr (gr_body T false _ rfl)
/-! ### single, joined -/
def spSingle (cl : Kd → Addr) (nm : List Str) : Sp := fun vs H Q _ => ∃ v t, vs = [v] ∧ t.single = true ∧ ToldAt nm H v t ∧ (∀ x ∈ nm, IsNm x) ∧ ∀ H' u, Same H H' → PartAt cl nm H' u t → Q u H'
theorem sc_single : FnScope ["told"] ["told"] (defScope sSingle) := ⟨rfl, rfl, rfl, by decide +kernel, rfl, by decide +kernel, by decide +kernel⟩
theorem same_made {H H' : Hp} {x dx C : Addr} {fs : List (Str × V)} (nx : H x = none) (nd : H dx = none) (m : Made (upd (upd H dx (.own x)) x (.ins C dx fs)) H' x) : Same H H' := fun b o e =>
  m b o (by rw [upd_ne (ne_of_none e nx), upd_ne (ne_of_none e nd)]; exact e) (ne_of_none e nx)
theorem ok_single (T : TxtP K mg cl) : Cal P w K mg base 5 "single" (spSingle cl nm) := by
  refine T.single.ok sc_single (fun vs H Q E h => ?_) fun f cdv A outer s H vs Q E hr h => ?_
  · obtain ⟨v, t, rfl, _⟩ := h; rfl
  obtain ⟨v, t, rfl, hs, hv, nms, q⟩ := h
  refine ⟨_, pss_one (ps_ret (pe_ifExp (pt_cmpR op_eq (pe_ix ix_tup (pv 0) pe_int (fun _ _ => rfl)) pe_str (nomark _))
    (qmk (ok_fx T) hr (by decide) (pa_cons (pe_ix ix_tup (pv 0) pe_int (fun _ _ => rfl)) pa_nil))
    (qmk (ok_ct T) hr (by decide) (pa_cons (pe_ix ix_tup (pv 0) pe_int (fun _ _ => rfl)) pa_nil)))), ?_⟩
  cases t with
  | nt t => cases hs
  | gr b ts => cases hs
  | fx b =>
    obtain ⟨a, rfl, ha⟩ := hv
    refine ⟨_, rfl, a, _, 0, _, rfl, rfl, SqT.of ha, rfl, rfl, _, rfl, ?_⟩
    rw [decide_eq_true (rfl : V.str "fixed" = V.str "fixed")]
    refine ⟨_, rfl, a, _, 1, _, rfl, rfl, SqT.of ha, rfl, fun x dx nx nd ne => ⟨x, dx, b, rfl, upd_same, fun H' h1 m => ⟨rfl, q H' _ (same_made nx nd m) ⟨x, dx, rfl, h1⟩⟩⟩⟩
  | ct i =>
    obtain ⟨a, y, rfl, ha, hy⟩ := hv
    refine ⟨_, rfl, a, _, 0, _, rfl, rfl, SqT.of ha, rfl, rfl, _, rfl, ?_⟩
    rw [decide_eq_false (by decide +kernel : ¬ V.str "contact" = V.str "fixed")]
    refine ⟨_, rfl, a, _, 1, _, rfl, rfl, SqT.of ha, rfl, fun x dx nx nd ne => ⟨x, dx, y, rfl, nms y (List.mem_of_getElem? hy), upd_same, fun H' h1 m => ⟨rfl, q H' _ (same_made nx nd m) ⟨x, dx, y, rfl, h1, hy⟩⟩⟩⟩
def spJoin (cl : Kd → Addr) (nm : List Str) : Sp := fun vs H Q _ => ∃ l xs t, vs = [.str t.kd.word, .ref l] ∧ t.single = false ∧ H l = some (.lst xs) ∧ PartsAt cl nm H xs t.kids ∧ t.wf nm.length ∧ t.size ≤ 60 ∧ t.depth ≤ 20 ∧
  ∀ H' u, Same H H' → PartAt cl nm H' u t → Q u H'
theorem sc_join : FnScope ["kind", "parts"] ["kind", "parts"] (defScope sJoin) := ⟨rfl, rfl, rfl, by decide +kernel, rfl, by decide +kernel, by decide +kernel⟩
theorem ok_join (T : TxtP K mg cl) : Cal P w K mg base 25 "joined" (spJoin cl nm) := by
  refine T.join.ok sc_join (fun vs H Q E h => ?_) fun f cdv A outer s H vs Q E hr h => ?_
  · obtain ⟨l, xs, t, rfl, _⟩ := h; rfl
  obtain ⟨l, xs, t, rfl, hs, hl, hx, wf, hz, hd, q⟩ := h
  refine ⟨_, pss_cons (ps_if (pt_cmpR op_eq (pv 0) pe_str (nomark _)) (pss_one (ps_ret (qmk (ok_nt (nm := nm) T) hr (by decide) (pa_cons (pe_ix ix_list (pv 1) pe_int (fun _ _ => rfl)) pa_nil)))) pss_nil)
    (pss_cons (ps_if (pt_cmpR op_eq (pv 0) pe_str (nomark _)) (pss_one (ps_ret (qmk (ok_se (nm := nm) T) hr (by decide) (pa_cons (pv 1) pa_nil)))) pss_nil)
    (pss_one (ps_ret (qmk (ok_br (nm := nm) T) hr (by decide) (pa_cons (pv 1) pa_nil))))), ?_⟩
  have news : ∀ {x dx : Addr} {C : Addr}, H x = none → H dx = none → Same H (upd (upd H dx (.own x)) x (.ins C dx [])) := fun nx nd b o e => by
    rw [upd_ne (ne_of_none e nx), upd_ne (ne_of_none e nd)]; exact e
  cases t with
  | fx b => cases hs
  | ct i => cases hs
  | nt t =>
    obtain ⟨v, ys, rfl, hv, e⟩ := hx
    obtain rfl : ys = [] := e
    refine ⟨_, rfl, rfl, _, rfl, ?_⟩
    rw [show decide (V.str (Tl.nt t).kd.word = V.str "not") = true from decide_eq_true rfl]
    have z1 : 1 + t.size ≤ 60 := hz
    have z2 : 1 + t.depth ≤ 20 := hd
    refine ⟨_, rfl, l, _, 0, v, rfl, rfl, SqL.of hl, rfl, fun x dx nx nd ne => ?_⟩
    have s0 := news (C := cl .nt) nx nd
    refine ⟨x, dx, v, t, rfl, hv.ext (S := []) (.same s0), by omega, by omega, upd_same, fun H' h1 m => ⟨rfl, ?_⟩⟩
    have sm := same_made nx nd m
    exact q H' _ sm ⟨x, dx, v, rfl, h1, hv.ext (S := []) (.same sm)⟩
  | gr b ts =>
    have z1 : 1 + sizes ts ≤ 60 := hz
    have z2 : 1 + depths ts ≤ 20 := hd
    have hx' : PartsAt cl nm H xs ts := hx
    cases b with
    | true =>
      refine ⟨_, rfl, rfl, _, rfl, ?_⟩
      rw [show decide (V.str (Tl.gr true ts).kd.word = V.str "not") = false from decide_eq_false (by decide +kernel : ¬ V.str Kd.se.word = V.str "not")]
      refine ⟨_, rfl, rfl, _, rfl, ?_⟩
      rw [show decide (V.str (Tl.gr true ts).kd.word = V.str "and") = true from decide_eq_true rfl]
      refine ⟨_, rfl, fun x dx nx nd ne => ?_⟩
      have s0 := news (C := cl .se) nx nd
      refine ⟨x, dx, l, xs, ts, rfl, s0 _ _ hl, hx'.ext (S := []) (.same s0), wf.1, by omega, by omega, upd_same, fun H' z h1 h2 m => ⟨rfl, ?_⟩⟩
      have sm := same_made nx nd m
      exact q H' _ sm ⟨x, dx, z, xs, rfl, h1, h2, hx'.ext (S := []) (.same sm)⟩
    | false =>
      refine ⟨_, rfl, rfl, _, rfl, ?_⟩
      rw [show decide (V.str (Tl.gr false ts).kd.word = V.str "not") = false from decide_eq_false (by decide +kernel : ¬ V.str Kd.br.word = V.str "not")]
      refine ⟨_, rfl, rfl, _, rfl, ?_⟩
      rw [show decide (V.str (Tl.gr false ts).kd.word = V.str "and") = false from decide_eq_false (by decide +kernel : ¬ V.str Kd.br.word = V.str "and")]
      refine ⟨_, rfl, fun x dx nx nd ne => ?_⟩
      have s0 := news (C := cl .br) nx nd
      refine ⟨x, dx, l, xs, ts, rfl, s0 _ _ hl, hx'.ext (S := []) (.same s0), wf.1, by omega, by omega, upd_same, fun H' z h1 h2 m => ⟨rfl, ?_⟩⟩
      have sm := same_made nx nd m
      exact q H' _ sm ⟨x, dx, z, xs, rfl, h1, h2, hx'.ext (S := []) (.same sm)⟩
end
end Rw

set_option Elab.async false
set_option linter.all false
set_option maxRecDepth 100000
set_option maxHeartbeats 4000000
/-! part_of: the tuples are gone down with a list of what is open. -/
namespace Rw
open PySem PySem.Spec PyProof.Rows L2
theorem atI_0 (x : V) (ys : List V) : atI (x :: ys) 0 = some x := atI_nat (j := 0) rfl
/-- one entry of what is open: its pair at z, its list at l with the parts xs, its tuple v of the tree t, of whose children k are done -/
structure Fr where
  z : Addr
  l : Addr
  v : V
  xs : List V
  t : Tl
  k : Nat
structure FrOk (cl : Kd → Addr) (nm : List Str) (H H' : Hp) (f : Fr) : Prop where
  z : H' f.z = some (.tup [f.v, .ref f.l])
  told : ToldAt nm H' f.v f.t
  lst : H' f.l = some (.lst f.xs)
  new : H f.l = none
  parts : PartsAt cl nm H' f.xs (f.t.kids.take f.k)
  k : f.k ≤ f.t.kids.length
  wf : f.t.wf nm.length
  sz : f.t.size ≤ 60
  dp : f.t.depth ≤ 20
structure Sk (cl : Kd → Addr) (nm : List Str) (H H' : Hp) (O : Addr) (fs : List Fr) : Prop where
  same : Same H H'
  newO : H O = none
  op : H' O = some (.lst ((fs.map fun f => V.ref f.z).reverse))
  ok : ∀ f ∈ fs, FrOk cl nm H H' f
  offO : ∀ f ∈ fs, f.l ≠ O
  nd : (fs.map (·.l)).Nodup
def Ch (t0 : Tl) : List Fr → Prop
  | [] => False
  | [f] => f.t = t0
  | f :: g :: r => g.t.kids[g.k]? = some f.t ∧ Ch t0 (g :: r)
def restM : List Fr → Nat
  | [] => 0
  | g :: r => leftT g.t (g.k + 1) + restM r
def meas : List Fr → Nat
  | [] => 0
  | f :: r => leftT f.t f.k + restM r
theorem leftT_pos (t : Tl) (k : Nat) : 0 < leftT t k := by unfold leftT; omega
theorem kid_size {t c : Tl} {k : Nat} (h : t.kids[k]? = some c) : c.size < t.size := by
  have := sizes_mem (List.mem_of_getElem? h); have := kids_size t; omega
theorem kid_depth {t c : Tl} {k : Nat} (h : t.kids[k]? = some c) : c.depth < t.depth := by
  have := depths_mem (List.mem_of_getElem? h); have := kids_depth t; omega
theorem Ch.few {t0 : Tl} : ∀ {r : List Fr} {f : Fr}, Ch t0 (f :: r) → f.t.size + r.length ≤ t0.size
  | [], f, h => by rw [show f.t = t0 from h]; exact Nat.le_refl _
  | g :: r, f, h => by
    have a := kid_size h.1
    have b := Ch.few h.2
    rw [List.length_cons]; omega
theorem word_single (t : Tl) : inV (.str t.kd.word) [.str "fixed", .str "contact"] = t.single := by
  cases t with
  | fx b => show inV (.str Kd.fx.word) [.str "fixed", .str "contact"] = true; decide +kernel
  | ct i => show inV (.str Kd.ct.word) [.str "fixed", .str "contact"] = true; decide +kernel
  | nt t => show inV (.str Kd.nt.word) [.str "fixed", .str "contact"] = false; decide +kernel
  | gr b ts =>
    cases b
    · show inV (.str Kd.br.word) [.str "fixed", .str "contact"] = false; decide +kernel
    · show inV (.str Kd.se.word) [.str "fixed", .str "contact"] = false; decide +kernel
theorem not_single {t c : Tl} {k : Nat} (h : t.kids[k]? = some c) : t.single = false := by
  cases t with
  | fx b => cases h
  | ct i => cases h
  | nt t => rfl
  | gr b ts => rfl
section
variable {P : Program} {w : World} {K : PySem.W.Frag} {mg : Str → Option Value} {base : Heap} {cl : Kd → Addr} {nm : List Str}
theorem FrOk.same {H H1 H2 : Hp} {f : Fr} (h : FrOk cl nm H H1 f) (s : Same H1 H2) : FrOk cl nm H H2 f :=
  ⟨s _ _ h.z, h.told.ext (S := []) (.same s), s _ _ h.lst, h.new, h.parts.ext (S := []) (.same s), h.k, h.wf, h.sz, h.dp⟩
theorem Sk.ext {H H1 H2 : Hp} {O : Addr} {fs : List Fr} (h : Sk cl nm H H1 O fs) (s : Same H1 H2) : Sk cl nm H H2 O fs :=
  ⟨h.same.trans s, h.newO, s _ _ h.op, fun f hf => (h.ok f hf).same s, h.offO, h.nd⟩
/-- a list of ours is changed: all that is whole stays, and so does what stood before -/
theorem put_list {H H1 : Hp} {p : Addr} {xs : List V} (s : Same H H1) (n : H p = none) (h : H1 p = some (.lst xs)) (u : HO) : Same H (upd H1 p u) ∧ Ext [p] H1 (upd H1 p u) :=
  ⟨fun b o e => by rw [upd_ne (ne_of_none e n)]; exact s _ _ e, .put h rfl (List.mem_singleton.mpr rfl)⟩
theorem FrOk.off {H H1 : Hp} {p : Addr} {u : HO} {f : Fr} (h : FrOk cl nm H H1 f) (e : Ext [p] H1 (upd H1 p u)) (n : f.l ≠ p) : FrOk cl nm H (upd H1 p u) f :=
  ⟨e.tup h.z, h.told.ext e, by rw [upd_ne n]; exact h.lst, h.new, h.parts.ext e, h.k, h.wf, h.sz, h.dp⟩
theorem Sk.pop {H H1 : Hp} {O : Addr} {f : Fr} {r : List Fr} (h : Sk cl nm H H1 O (f :: r)) : Sk cl nm H (upd H1 O (.lst ((r.map fun f => V.ref f.z).reverse))) O r := by
  obtain ⟨a, b⟩ := put_list h.same h.newO h.op (.lst ((r.map fun f => V.ref f.z).reverse))
  exact ⟨a, h.newO, upd_same, fun g hg => (h.ok g (List.mem_cons_of_mem _ hg)).off b (h.offO g (List.mem_cons_of_mem _ hg)), fun g hg => h.offO g (List.mem_cons_of_mem _ hg), (List.nodup_cons.mp h.nd).2⟩
theorem Sk.push {H H1 : Hp} {O : Addr} {f : Fr} {r : List Fr} (h : Sk cl nm H H1 O r) (hf : FrOk cl nm H H1 f) (n1 : f.l ≠ O) (n2 : ∀ g ∈ r, g.l ≠ f.l) : Sk cl nm H (upd H1 O (.lst (((f :: r).map fun f => V.ref f.z).reverse))) O (f :: r) := by
  obtain ⟨a, b⟩ := put_list h.same h.newO h.op (.lst (((f :: r).map fun f => V.ref f.z).reverse))
  refine ⟨a, h.newO, upd_same, fun g hg => ?_, fun g hg => ?_, ?_⟩
  · rcases List.mem_cons.mp hg with rfl | hg
    · exact hf.off b n1
    · exact (h.ok g hg).off b (h.offO g hg)
  · rcases List.mem_cons.mp hg with rfl | hg
    · exact n1
    · exact h.offO g hg
  · rw [List.map_cons, List.nodup_cons]
    refine ⟨fun hm => ?_, h.nd⟩
    obtain ⟨g, hg, e⟩ := List.mem_map.mp hm
    exact n2 g hg e
/-- a part is put behind the others of the entry on top -/
theorem Sk.grow {H H1 : Hp} {O : Addr} {g : Fr} {r : List Fr} {c : Tl} {u : V} (h : Sk cl nm H H1 O (g :: r)) (hc : g.t.kids[g.k]? = some c) (hu : PartAt cl nm H1 u c) :
    Sk cl nm H (upd H1 g.l (.lst (g.xs ++ [u]))) O (⟨g.z, g.l, g.v, g.xs ++ [u], g.t, g.k + 1⟩ :: r) := by
  have hg := h.ok g List.mem_cons_self
  obtain ⟨a, b⟩ := put_list h.same hg.new hg.lst (.lst (g.xs ++ [u]))
  have nd := List.nodup_cons.mp h.nd
  have lt := (List.getElem?_eq_some_iff.mp hc).1
  refine ⟨a, h.newO, ?_, fun f hf => ?_, fun f hf => ?_, h.nd⟩
  · rw [upd_ne (h.offO g List.mem_cons_self).symm]; exact h.op
  · rcases List.mem_cons.mp hf with rfl | hf
    · exact ⟨b.tup hg.z, hg.told.ext b, upd_same, hg.new, by rw [take_step hc]; exact (hg.parts.ext b).app (.one (hu.ext b)), lt, hg.wf, hg.sz, hg.dp⟩
    · exact (h.ok f (List.mem_cons_of_mem _ hf)).off b fun e => nd.1 (List.mem_map.mpr ⟨f, hf, e⟩)
  · rcases List.mem_cons.mp hf with rfl | hf
    · exact h.offO g List.mem_cons_self
    · exact h.offO f (List.mem_cons_of_mem _ hf)
def spPartOf (cl : Kd → Addr) (nm : List Str) : Sp := fun vs H Q _ => ∃ v t, vs = [v] ∧ ToldAt nm H v t ∧ t.wf nm.length ∧ (∀ x ∈ nm, IsNm x) ∧ t.size ≤ 60 ∧ t.depth ≤ 20 ∧
  ∀ H' u, Same H H' → PartAt cl nm H' u t → Q u H'
theorem sc_partOf : FnScope ["told", "opened", "found", "one", "parts", "is_single"] ["told"] (defScope sPartOf) := ⟨rfl, rfl, rfl, by decide +kernel, rfl, by decide +kernel, by decide +kernel⟩
/-- what holds ahead of each turn -/
def WPo (cl : Kd → Addr) (nm : List Str) (H : Hp) (v : V) (t0 : Tl) (O : Addr) (m : Nat) (σ : L2.St) (H' : Hp) : Prop :=
  ∃ fs o2 o3 o4 o5, m = meas fs ∧ σ = [some v, some (.ref O), o2, o3, o4, o5] ∧ Sk cl nm H H' O fs ∧ ((fs = [] ∧ ∃ u, o2 = some u ∧ PartAt cl nm H' u t0) ∨ Ch t0 fs)
theorem ok_partOf (T : TxtP K mg cl) : Cal P w K mg base 26 "part_of" (spPartOf cl nm) := by
  refine T.partOf.ok sc_partOf (fun vs H Q E h => ?_) fun f cdv A outer s H vs Q E hr h => ?_
  · obtain ⟨v, t, rfl, _⟩ := h; rfl
  obtain ⟨v, t0, rfl, hv, wf, nms, h60, h20, q⟩ := h
  have nd := sc_partOf.nd
  refine ⟨_, pss_cons (ps_set (i := 1) nd rfl (Or.inl rfl) (pe_lst (pa_cons (pe_tup (pa_cons (pv 0) (pa_cons (pe_lst pa_nil) pa_nil))) pa_nil)))
    (pss_cons (ps_set (i := 2) nd rfl (Or.inl rfl) pe_non)
    (pss_cons (ps_while PassesOwn.never (pt_cmpR (op_neNil hr.units0) (pv 1) (pe_lst pa_nil) (nomark _))
      (pss_cons (ps_asg (pe_ix ix_list (pv 1) (pe_un un_neg pe_int) (fun _ _ => rfl)) (pg_tup rfl (pgs_cons (pg_name (i := 3) nd rfl (Or.inl rfl)) (pgs_cons (pg_name (i := 4) nd rfl (Or.inl rfl)) pgs_nil))))
      (pss_cons (ps_set (i := 5) nd rfl (Or.inl rfl) (pe_cmpR op_in_seq (pe_ix ix_tup (pv 3) pe_int (fun _ _ => rfl)) (pe_tup (pa_cons pe_str (pa_cons pe_str pa_nil))) rfl))
      (pss_cons (ps_if (PW.pt (pw_and (pt_not (pt_val (pv 5))) (pw_and1 (pt_cmpR op_lt (pe_callB call_len_seq (by rfl) T.len PySem.boot_len (pa_cons (pv 4) pa_nil)) (pe_op op_sub (pe_callB call_len_seq (by rfl) T.len PySem.boot_len (pa_cons (pv 3) pa_nil)) pe_int) (nomark _)))))
          (pss_cons (ps_expr (pe_bm PySem.F.plainAttrs_list PySem.F.slot_list_append PySem.F.type_list_append mt_append (pv 1) (pa_cons (pe_tup (pa_cons (pe_ix ix_tup (pv 3) (pe_op op_add pe_int (pe_callB call_len_seq (by rfl) T.len PySem.boot_len (pa_cons (pv 4) pa_nil))) (fun _ _ => rfl)) (pa_cons (pe_lst pa_nil) pa_nil))) pa_nil)))
            (pss_one ps_continue)) pss_nil)
      (pss_cons (ps_expr (pe_bm0 PySem.F.plainAttrs_list PySem.F.slot_list_pop PySem.F.type_list_pop mt_pop (pv 1)))
      (pss_cons (ps_set (i := 2) nd rfl (Or.inl rfl) (pe_ifExp (pt_val (pv 5)) (qc (ok_single (nm := nm) T) hr (by decide) (pa_cons (pv 3) pa_nil)) (qc (ok_join (nm := nm) T) hr (Nat.le_refl _) (pa_cons (pe_ix ix_tup (pv 3) pe_int (fun _ _ => rfl)) (pa_cons (pv 4) pa_nil)))))
      (pss_one (ps_if (pt_cmpR (op_neNil hr.units0) (pv 1) (pe_lst pa_nil) (nomark _))
        (pss_one (ps_expr (pe_bm PySem.F.plainAttrs_list PySem.F.slot_list_append PySem.F.type_list_append mt_append (pe_ix ix_tup (pe_ix ix_list (pv 1) (pe_un un_neg pe_int) (fun _ _ => rfl)) pe_int (fun _ _ => rfl)) (pa_cons (pv 2) pa_nil)))) pss_nil)))))))
    ) (pss_one (ps_ret (pv 2))))), ?_⟩
  refine ⟨_, rfl, Nat.zero_le _, fun l hl => ⟨(by show 2 ≤ sizeLine; decide), fun z hz => ⟨(by show 1 ≤ sizeLine; decide), fun O hO => ?_⟩⟩⟩
  have sA : Same H (upd H l (.lst [])) := same_new hl _
  have sB := same_new hz (.tup [v, .ref l])
  have sC := same_new hO (.lst [.ref z])
  have lz : l ≠ z := ne_of_none upd_same hz
  have lO : l ≠ O := ne_of_none (by rw [upd_ne lz, upd_same]) hO
  have zO : z ≠ O := ne_of_none upd_same hO
  have sAll := sA.trans (sB.trans sC)
  refine ⟨WPo cl nm H v t0 O, ⟨_, [⟨z, l, v, [], t0, 0⟩], _, _, _, _, rfl, rfl, ⟨sAll, sA.free (sB.free hO), upd_same, fun f hf => ?_, fun f hf => ?_, by simp⟩, .inr rfl⟩, ?_⟩
  · obtain rfl := List.mem_singleton.mp hf
    exact ⟨by rw [upd_ne zO, upd_same], hv.ext (S := []) (.same sAll), by rw [upd_ne lO, upd_ne lz, upd_same], hl, rfl, Nat.zero_le _, wf, h60, h20⟩
  · obtain rfl := List.mem_singleton.mp hf
    exact lO
  rintro m σ H1 ⟨fs, o2, o3, o4, o5, rfl, rfl, S, alt⟩
  refine ⟨_, rfl, Nat.zero_le _, fun e he => ?_⟩
  have S1 := S.ext (same_new he (.lst []))
  refine ⟨O, e, _, rfl, rfl, SqL.of S1.op, SqL.of upd_same, _, rfl, ?_⟩
  cases fs with
  | nil =>
    rcases alt with ⟨_, u, rfl, hu⟩ | no
    · exact ⟨u, rfl, q _ u S1.same (hu.ext (S := []) (.same (same_new he _)))⟩
    · exact no.elim
  | cons f r =>
    have ch : Ch t0 (f :: r) := by
      rcases alt with ⟨z, _⟩ | ch
      · cases z
      · exact ch
    have ne : ((f :: r).map fun f => V.ref f.z).reverse.isEmpty = false := by simp
    rw [ne]
    refine ⟨fun σ' H' => ∃ m', m' < meas (f :: r) ∧ WPo cl nm H v t0 O m' σ' H', fun σ' H' h => h, ?_⟩
    have rv : ((f :: r).map fun f => V.ref f.z).reverse = (r.map fun f => V.ref f.z).reverse ++ [V.ref f.z] := by rw [List.map_cons, List.reverse_cons]
    have hf := S1.ok f List.mem_cons_self
    refine ⟨_, rfl, 1, rfl, O, _, -1, .ref f.z, rfl, rfl, SqL.of S1.op, by rw [rv]; exact atI_last _ _, f.z, _, rfl, SqT.of hf.z, rfl, _, _, rfl, _, _, rfl, rfl, ?_⟩
    obtain ⟨a, ys, ev, ha⟩ := hf.told.any
    refine ⟨f.v, rfl, a, _, 0, _, ev, rfl, SqT.of ha, atI_0 _ _, (by show 2 ≤ sizeLine; decide), fun p hp => ?_⟩
    refine ⟨p, _, rfl, .inr (SqT.of upd_same), rfl, rfl, ?_⟩
    rw [if_neg Bool.false_ne_true, word_single]
    have S3 := S1.ext (same_new hp (.tup [.str "fixed", .str "contact"]))
    have hf3 := S3.ok f List.mem_cons_self
    have ha3 := same_new hp (.tup [.str "fixed", .str "contact"]) _ _ ha
    generalize upd (upd H1 e (.lst [])) p (.tup [.str "fixed", .str "contact"]) = H3 at S3 hf3 ha3 ⊢
    have hxl := hf3.parts.len
    rw [List.length_take, Nat.min_eq_left hf3.k] at hxl
    have few := ch.few
    have kl := kids_len f.t
    -- what follows once the part u of the tree on top is made
    have tail : ∀ (H4 : Hp) (u : V) (o5 : Option V), Sk cl nm H H4 O r → PartAt cl nm H4 u f.t →
        tIfS (tTest (tOp (rNeNil K) (tVar 1) (tLst tNil))) (tDrop (tBM K "list" rAppend (tOp (rIxT K) (tOp (rIxL K) (tVar 1) (tUn (rU fun i => .int (-i)) (tC (.int 1)))) (tC (.int 1))) (tCons (tVar 2) tNil))) tNext
          { nx := fun σ' H' => ∃ m', m' < meas (f :: r) ∧ WPo cl nm H v t0 O m' σ' H', rt := Q, bk := fun σ H => tRet (tVar 2) { nx := fun _ H' => Q .non H', rt := Q } σ H, ct := fun σ' H' => ∃ m', m' < meas (f :: r) ∧ WPo cl nm H v t0 O m' σ' H' }
          [some v, some (.ref O), some u, some f.v, some (.ref f.l), o5] H4 := by
      intro H4 u o5 S4 hu
      refine ⟨_, rfl, Nat.zero_le _, fun e2 he2 => ?_⟩
      have sE := same_new he2 (.lst [])
      have S5 := S4.ext sE
      have hu5 := hu.ext (S := []) (.same sE)
      refine ⟨O, e2, _, rfl, rfl, SqL.of S5.op, SqL.of upd_same, _, rfl, ?_⟩
      cases r with
      | nil =>
        refine ⟨0, leftT_pos _ _, [], _, _, _, _, rfl, rfl, S5, .inl ⟨rfl, u, rfl, ?_⟩⟩
        rw [← (show f.t = t0 from ch)]
        exact hu5
      | cons g r =>
        have ne2 : ((g :: r).map fun f => V.ref f.z).reverse.isEmpty = false := by simp
        rw [ne2]
        have rv2 : ((g :: r).map fun f => V.ref f.z).reverse = (r.map fun f => V.ref f.z).reverse ++ [V.ref g.z] := by rw [List.map_cons, List.reverse_cons]
        have hg := S5.ok g List.mem_cons_self
        have lg := hg.parts.len
        rw [List.length_take, Nat.min_eq_left hg.k] at lg
        have kg := kids_len g.t
        have zg := hg.sz
        refine ⟨_, rfl, 1, rfl, O, _, -1, .ref g.z, rfl, rfl, SqL.of S5.op, by rw [rv2]; exact atI_last _ _, g.z, _, 1, .ref g.l, rfl, rfl, SqT.of hg.z, rfl, .inl ⟨rfl, _, SqL.of hg.lst⟩, _, rfl, g.l, _, u, rfl, rfl, hg.lst, sz (by have := hg.k; omega), ?_⟩
        have S6 := S5.grow ch.1 hu5
        refine ⟨meas (⟨g.z, g.l, g.v, g.xs ++ [u], g.t, g.k + 1⟩ :: r), ?_, _, _, _, _, _, rfl, rfl, S6, .inr ?_⟩
        · show leftT g.t (g.k + 1) + restM r < leftT f.t f.k + (leftT g.t (g.k + 1) + restM r)
          have := leftT_pos f.t f.k
          omega
        · cases r with
          | nil => exact ch.2
          | cons g2 r2 => exact ch.2
    have op3 : H3 O = some (.lst ((r.map fun f => V.ref f.z).reverse ++ [V.ref f.z])) := by rw [← rv]; exact S3.op
    have S4 := S3.pop
    have x4 := (put_list S3.same S3.newO op3 (.lst ((r.map fun f => V.ref f.z).reverse))).2
    have last : ((r.map fun f => V.ref f.z).reverse ++ [V.ref f.z])[((r.map fun f => V.ref f.z).reverse ++ [V.ref f.z]).length - 1]? = some (V.ref f.z) := by
      rw [List.length_append, List.length_singleton, Nat.add_sub_cancel, List.getElem?_append_right (Nat.le_refl _), Nat.sub_self]; rfl
    have dl : ((r.map fun f => V.ref f.z).reverse ++ [V.ref f.z]).dropLast = (r.map fun f => V.ref f.z).reverse := List.dropLast_concat
    cases hs : f.t.single with
    | true =>
      refine ⟨_, rfl, true, rfl, ?_⟩
      refine ⟨_, rfl, .inl ⟨rfl, _, SqL.of op3⟩, O, _, _, rfl, rfl, op3, last, ?_⟩
      rw [dl]
      refine ⟨_, rfl, true, rfl, _, rfl, f.v, f.t, rfl, hs, hf3.told.ext x4, nms, fun H' u s1 hu => ?_⟩
      exact tail H' u _ (S4.ext s1) hu
    | false =>
      obtain ⟨a', ys', ev', ha', kids⟩ := hf3.told.many hs
      rw [ev] at ev'
      cases ev'
      have kidl := kids.len
      refine ⟨_, rfl, false, rfl, _, rfl, f.l, _, rfl, .inl (SqL.of hf3.lst), ?_⟩
      refine ⟨f.v, rfl, a, _, (by rw [ev]), .inr (SqT.of ha'), _, _, rfl, rfl, _, _, rfl, rfl, _, rfl, ?_⟩
      by_cases hk : f.k < f.t.kids.length
      · rw [decide_eq_true (by rw [List.length_cons]; omega : ((f.xs.length : Nat) : Int) < (((V.str f.t.kd.word :: ys').length : Nat) : Int) - 1)]
        obtain ⟨c, hc⟩ : ∃ c, f.t.kids[f.k]? = some c := ⟨_, List.getElem?_eq_getElem hk⟩
        obtain ⟨y, hy⟩ : ∃ y, ys'[f.k]? = some y := ⟨_, List.getElem?_eq_getElem (by omega)⟩
        obtain ⟨c', hc', told⟩ := kids.get hy
        rw [hc] at hc'
        obtain rfl := Option.some.inj hc'
        have at1 : atI (V.str f.t.kd.word :: ys') (1 + ((f.xs.length : Nat) : Int)) = some y := by
          rw [show (1 : Int) + ((f.xs.length : Nat) : Int) = ((f.k + 1 : Nat) : Int) by omega]
          exact atI_nat (by rw [List.getElem?_cons_succ]; exact hy)
        refine ⟨_, rfl, .inl ⟨rfl, _, SqL.of S3.op⟩, f.v, rfl, _, rfl, f.l, _, rfl, .inl (SqL.of hf3.lst), _, _, rfl, rfl, a, _, _, y, ev, rfl, SqT.of ha', at1, Nat.zero_le _, fun l' hl' => ⟨(by show 2 ≤ sizeLine; decide), fun z' hz' => ?_⟩⟩
        have s4 := same_new hl' (.lst [])
        have s5 := same_new hz' (.tup [y, .ref l'])
        have S5 := S3.ext (s4.trans s5)
        have lz' : l' ≠ z' := ne_of_none upd_same hz'
        have c60 := kid_size hc
        have c20 := kid_depth hc
        have cwf := wfs_mem (kids_wf hf3.wf) (List.mem_of_getElem? hc)
        have h60 := hf3.sz
        have h20 := hf3.dp
        have fnew : FrOk cl nm H (upd (upd H3 l' (.lst [])) z' (.tup [y, .ref l'])) ⟨z', l', y, [], c, 0⟩ :=
          ⟨upd_same, told.ext (S := []) (.same (s4.trans s5)), by rw [upd_ne lz', upd_same], S3.same.free hl', rfl, Nat.zero_le _, cwf, by show c.size ≤ 60; omega, by show c.depth ≤ 20; omega⟩
        have offO : l' ≠ O := (ne_of_none S3.op hl').symm
        have offs : ∀ g ∈ f :: r, g.l ≠ l' := fun g hg => ne_of_none (S3.ok g hg).lst hl'
        have S6 := S5.push fnew offO offs
        refine ⟨O, _, _, rfl, rfl, S5.op, ?_, ?_⟩
        · rw [List.length_reverse, List.length_map, List.length_cons]; exact sz (by omega)
        · have er : ((f :: r).map fun f => V.ref f.z).reverse ++ [V.ref z'] = ((⟨z', l', y, [], c, 0⟩ :: f :: r : List Fr).map fun f => V.ref f.z).reverse := by
            rw [List.map_cons (a := (⟨z', l', y, [], c, 0⟩ : Fr)), List.reverse_cons]
          rw [er]
          refine ⟨meas (⟨z', l', y, [], c, 0⟩ :: f :: r), ?_, _, _, _, _, _, rfl, rfl, S6, .inr ⟨hc, ch⟩⟩
          show leftT c 0 + (leftT f.t (f.k + 1) + restM r) < leftT f.t f.k + restM r
          have := leftT_step hc
          have := leftT_zero c
          omega
      · rw [decide_eq_false (by rw [List.length_cons]; omega : ¬ ((f.xs.length : Nat) : Int) < (((V.str f.t.kd.word :: ys').length : Nat) : Int) - 1)]
        have fk : f.t.kids.take f.k = f.t.kids := List.take_of_length_le (by omega)
        have hp4 := hf3.parts.ext x4
        rw [fk] at hp4
        refine ⟨_, rfl, .inl ⟨rfl, _, SqL.of op3⟩, O, _, _, rfl, rfl, op3, last, ?_⟩
        rw [dl]
        refine ⟨_, rfl, false, rfl, f.v, rfl, a, _, 0, _, ev, rfl, SqT.of (x4.tup ha'), atI_0 _ _, _, rfl, ?_⟩
        refine ⟨f.l, f.xs, f.t, rfl, hs, ?_, hp4, hf3.wf, hf3.sz, hf3.dp, fun H' u s1 hu => ?_⟩
        · rw [upd_ne (S3.offO f List.mem_cons_self)]; exact hf3.lst
        · exact tail H' u _ (S4.ext s1) hu
end
end Rw

set_option Elab.async false
set_option linter.all false
set_option maxRecDepth 100000
set_option maxHeartbeats 4000000
/-! len(set(xs)) of a list of texts, no two alike. -/
namespace RwS
open PySem PySem.Spec PyProof.Rows L2
theorem strs_of : ∀ {xs : List Str} {us : List Value}, Vals (xs.map V.str) us → ∀ (i : Nat) (v : Value), us[i]? = some v → ∃ t, v = .str (xs.getD i Str.empty) t
  | [], _, .nil, i, v, h => by simp at h
  | x :: xs, _, .cons r t, 0, v, h => by
    obtain ⟨tk, e⟩ := r
    exact ⟨tk, (Option.some.inj h).symm.trans e⟩
  | x :: xs, _, .cons r t, i + 1, v, h => strs_of t i v h
abbrev has (xs : List Str) (i : Nat) : Str → Bool := fun z => (xs.take i).any (· == z)
theorem has_next {xs : List Str} (nd : xs.Nodup) {i : Nat} (hi : i < xs.length) : has xs i (xs.getD i Str.empty) = false ∧ ∀ z, (has xs i z || decide (z = xs.getD i Str.empty)) = has xs (i + 1) z := by
  have e1 : xs.getD i Str.empty = xs[i] := by rw [List.getD_eq_getElem?_getD, List.getElem?_eq_getElem hi]; rfl
  have e2 : xs.take (i + 1) = xs.take i ++ [xs[i]] := by rw [List.take_add_one, List.getElem?_eq_getElem hi]; rfl
  refine ⟨?_, fun z => ?_⟩
  · rw [e1]
    cases hb : has xs i xs[i] with
    | false => rfl
    | true =>
      obtain ⟨y, hy, ey⟩ := List.any_eq_true.mp hb
      have ey2 : y = xs[i] := eq_of_beq ey
      rw [ey2] at hy
      have nd2 : (xs.take (i + 1)).Nodup := nd.sublist (List.take_sublist _ _)
      rw [e2, List.nodup_append] at nd2
      exact absurd rfl (nd2.2.2 _ hy _ (List.mem_singleton.mpr rfl))
  · show ((xs.take i).any (· == z) || _) = (xs.take (i + 1)).any (· == z)
    rw [e2, e1, List.any_append]
    congr 1
    by_cases h : z = xs[i]
    · rw [decide_eq_true h, h]; simp
    · rw [decide_eq_false h]
      have hb : (xs[i] == z) = false := by rw [beq_eq_false_iff_ne]; exact fun q => h q.symm
      rw [List.any_cons, hb]; rfl
section
variable {P : Program} {w : World} {A : Around} {R : Result → Shared → Prop} {E : Value → Shared → Prop} {it S : Addr} {fp wr : List Addr} {G : Array GenState → Array GenState → Prop} {n : Nat} {Pv : Nat → Value → Prop} {St : Nat → Shared → Prop}
theorem set_same {h h' : Heap} {k : Str → Bool} {c : Nat} (x : h.SetOf (strKind P w) S k c) (e : ∀ o, h.get? S = some o → h'.get? S = some o) : h'.SetOf (strKind P w) S k c := by
  obtain ⟨o, es, ep, t, ho, more⟩ := x
  exact ⟨o, es, ep, t, e o ho, more⟩
/-- the loop that fills the set -/
theorem fill (W : WalksS P w A.in1 it fp wr G n Pv St) (off : S ∉ fp) {xs : List Str} (nd : xs.Nodup) (len : xs.length = n) (few : n + 1 < scanBound) (at_ : ∀ i v, Pv i v → ∃ t, v = .str (xs.getD i Str.empty) t) :
    ∀ (k i : Nat) (s : Shared), n - i = k → i ≤ n → St i s → s.heap.SetOf (strKind P w) S (has xs i) i →
      (∀ s', Moved (S :: wr) G s s' → s'.heap.SetOf (strKind P w) S (has xs n) n → R (.ok (.ret .none)) s') →
      codeAny (model P w) A (.builtin "set.update.loop" ⟨[.ref S, .ref it], []⟩) R s := by
  have offW : S ∉ wr := fun z => off (W.sub _ z)
  have into : ∀ b ∈ wr, b ∈ S :: wr := fun b z => List.mem_cons_of_mem _ z
  intro k
  induction k with
  | zero =>
    intro i s hk hi st hS hR
    obtain rfl : i = n := by omega
    refine codeAny_builtin F.entry_set_update_loop ?_
    rw [Around.under_plainId F.plain_set_update_loop]
    refine wpAny_bind (m := pyNext (.ref it)) (W.done s _ _ st fun s' mv => ?_)
    exact wpAny_pure (hR s' (mv.mono into) (set_same hS fun o e => mv.heap S o offW e))
  | succ k ih =>
    intro i s hk hi st hS hR
    have lt : i < n := by omega
    refine codeAny_builtin F.entry_set_update_loop ?_
    rw [Around.under_plainId F.plain_set_update_loop]
    refine wpAny_bind (m := pyNext (.ref it)) (W.item i s _ _ lt st fun v s' hv st' mv => ?_)
    obtain ⟨t, rfl⟩ := at_ i v hv
    have hS' := set_same hS fun o e => mv.heap S o offW e
    obtain ⟨new, next⟩ := has_next nd (i := i) (by omega)
    refine wpAny_bind (m := holding [Value.str (xs.getD i Str.empty) t] (setAdd S (.str (xs.getD i Str.empty) t))) (wpAny_holding ?_)
    unfold setAdd
    refine wpAny_holding (wpAny_bind ((strKind P w).pyHash (k := xs.getD i Str.empty) (strKind_is _ _ _ _) ?_))
    refine wpAny_setAddHashed_of (knd := strKind P w) (s := { s' with toks := s'.toks + 1 }) (strKind_is _ _ _ _) rfl hS' (by omega) fun h' but h2 => ?_
    have hS2 : h'.SetOf (strKind P w) S (has xs (i + 1)) (i + 1) := SetOf_congr h2 next (by rw [new]; rfl)
    have keep : ∀ b o, b ≠ S → s'.heap.get? b = some o → h'.get? b = some o := fun b o ne e => (but.2 b ne).trans e
    refine wpAny_pure ⟨plainId_quiet F.plain_set_update_loop _, ih (i + 1) _ (by omega) lt (W.frame _ s' _ _ st' (Nat.le_succ _) fun b hb o e => keep b o (fun z => off (z ▸ hb)) e) hS2 fun s2 mv2 hS3 => ?_⟩
    exact hR s2 (Moved.trans W.gtrans ((mv.mono into).then_heap (Nat.le_succ _) fun b o hb e => keep b o (fun z => hb (z ▸ List.mem_cons_self)) e) mv2) hS3
end
abbrev so (led : Bool) : Obj := { cls := .type "set", dict := none, data := .set #[] 0 (.fresh 0 0 led) }
section
variable {P : Program} {w : World} {A : Around} {E : Value → Shared → Prop} {s : Shared}
theorem set_of_texts {l : Addr} {its : List Value} {xs : List Str} {Q : Value → Shared → Prop} (hh : A.handled = none) (hl : s.heap.IsList l its.toArray) (hi : Vals (xs.map V.str) its) (nd : xs.Nodup) (few : xs.length + 1 < scanBound)
    (h : ∀ (h' : Heap) (tk : Nat), h'.SetOf (strKind P w) s.heap.objs.size (has xs xs.length) xs.length → (∀ b o, s.heap.get? b = some o → h'.get? b = some o) → Q (.ref s.heap.objs.size) { s with heap := h', toks := tk }) :
    wpAny (model P w) A (call (.type "set") [.ref l]) Q E s := by
  have hsz : its.toArray.size = xs.length := by rw [List.size_toArray, ← hi.length, List.length_map]
  obtain ⟨_, _, m1⟩ := F.called_set.mro
  have m2 := F.called_set.made
  have m3 := F.called_set.sub
  have m4 := F.called_set.notType
  have m5 := F.called_set.canCreate
  have m6 := F.typeCall_set_1 (.ref l)
  refine wpAny_call (codeAny_of_tree ?_)
  show wpAny _ _ (callAny (.type "set") ⟨[.ref l], []⟩) _ _ s
  refine wpAny_pure (And.intro (Code.quiet_builtin _ (by decide +kernel)) (codeAny_builtin F.entry_type_call ?_))
  rw [Around.under_plain (weight_type_call_type "set" [.ref l] []) rfl]
  repeat any_goals first | (assumption) | wp_step
  refine codeAny_mono (code_set_new_1 (.ref l) (E := E) (Q₁ := fun ob s1 => ∃ led : Bool, ob = .ref s.heap.objs.size ∧ s1 = { s with heap := s.heap.push (so led) }) fun led => ⟨led, rfl, rfl⟩) fun r s1 k1 => ?_
  match r, k1 with
  | .error _, k1 => exact k1
  | .ok .next, k1 => exact k1.elim
  | .ok .brk, k1 => exact k1.elim
  | .ok .cont, k1 => exact k1.elim
  | .ok (.ret ob), k1 =>
    obtain ⟨led, e1, e2⟩ := k1
    subst e1 e2
    have hS : (s.heap.push (so led)).get? s.heap.objs.size = some (so led) := Heap.get?_push_size _ rfl
    have hT : ({ s with heap := s.heap.push (so led) } : Shared).TypeIs (.ref s.heap.objs.size) "set" := ⟨_, hS, rfl⟩
    have n1 := F.called_set.init.lookup
    have n2 := F.called_set.init.bind (.ref s.heap.objs.size)
    repeat any_goals first | (assumption) | wp_step
    refine codeAny_mono (codeAny_call_builtin (R := wants (fun v s2 => v = .none ∧ ∃ h' tk, s2 = { s with heap := h', toks := tk } ∧ h'.SetOf (strKind P w) s.heap.objs.size (has xs xs.length) xs.length ∧ ∀ b o, s.heap.get? b = some o → h'.get? b = some o) E)
      F.called_set.init.plain F.entry_set_init (check_set_init_1 hT ?_)) fun v s2 k2 => ?_
    · obtain ⟨⟨_, od, _, os⟩, ho, hc, nl, hd⟩ := hl
      simp only at hc hd
      subst hc hd
      have ho2 : (s.heap.push (so led)).get? l = some { cls := .type "list", dict := od, data := .seq its.toArray nl, slots := os } := Heap.get?_push_of_some _ ho
      have hl2 : (s.heap.push (so led)).IsList l its.toArray := ⟨_, ho2, rfl, nl, rfl⟩
      have s1 := F.sub_list_set
      have s2 := F.sub_list_frozenset
      have s3 : (Value.type "list" == Value.type "dict") = false := by decide
      have lt := Heap.lt_size ho
      unfold Builtin.«set.__init__» noKeywords Builtin.Frozenset.updateFrom
      generalize qI : pyIter = J
      wp_walk
      subst qI
      refine wpAny_pyIter_list hl2 (wpAny_bind (wpAny_runValue ?_))
      have size2 : (s.heap.push (so led)).objs.size = s.heap.objs.size + 1 := Heap.size_push _ _
      have ne1 : l ≠ (s.heap.push (so led)).objs.size := by rw [size2]; exact Nat.ne_of_lt (Nat.lt_succ_of_lt lt)
      have off : s.heap.objs.size ∉ [(s.heap.push (so led)).objs.size, l] := by
        rw [size2]
        intro z
        rcases List.mem_cons.mp z with z | z
        · exact absurd z (Nat.ne_of_lt (Nat.lt_succ_self _))
        · exact absurd (List.mem_singleton.mp z).symm (Nat.ne_of_lt lt)
      have hh3 : A.in1.in1.in1.handled = none := hh
      refine fill ((Walks.list hh3 _ l ne1 its.toArray).toS) off nd hsz.symm (by rw [hsz]; exact few) (fun i v hv => strs_of hi i v (by simpa using hv)) (its.toArray.size - 0) 0 _ (by omega) (Nat.zero_le _) ⟨⟨_, Heap.get?_push_size _ rfl, rfl, rfl⟩, hl2.push _⟩ ?_ ?_
      · have g0 : ((s.heap.push (so led)).push { cls := .type "list_iterator", data := .fields #[.ref l, .int 0 0] }).get? s.heap.objs.size = some (so led) := Heap.get?_push_of_some _ hS
        exact SetOf_congr ((setObjOf_fresh (knd := strKind P w) led).setOf g0 (by unfold scanBound; omega)) (fun _ => rfl) rfl
      · intro s' mv hS'
        have eg := mv.gens
        have ed := mv.drawn
        have eo := mv.os
        obtain ⟨h', g', d', tk', os'⟩ := s'
        subst eg ed eo
        rw [hsz] at hS'
        refine wpAny_pure ?_
        refine wpAny_pure ⟨rfl, h', tk', rfl, hS', fun b o e => ?_⟩
        have hb := Heap.lt_size e
        refine mv.heap b o (fun z => ?_) (Heap.get?_push_of_some _ (Heap.get?_push_of_some _ e))
        rcases List.mem_cons.mp z with z | z
        · exact Nat.ne_of_lt hb z
        · exact Nat.ne_of_lt (Nat.lt_succ_of_lt hb) ((List.mem_singleton.mp z).trans size2)
    · match v, k2 with
      | .error _, k2 => exact k2
      | .ok .next, k2 => exact k2.elim
      | .ok .brk, k2 => exact k2.elim
      | .ok .cont, k2 => exact k2.elim
      | .ok (.ret u), k2 =>
        obtain ⟨e1, h', tk, e2, k3, k4⟩ := k2
        subst e1 e2
        repeat any_goals first | (assumption) | wp_step
        exact h _ _ k3 k4
end
/-- len(set(xs)) -/
def tLenSetT (K : PySem.W.Frag) (ta : TE) : TE := fun σ H Q => ta σ H fun x H1 => ∃ (l : Addr) (xs : List Str), x = .ref l ∧ SqL K H1 l (xs.map V.str) ∧ xs.Nodup ∧ xs.length ≤ 1000 ∧ Q (.int (xs.length : Nat)) H1
theorem pe_lenSetT {X : Cx} {a : Expr} {ta : TE} {p p2 q pos : Pos} (hg : Gl X "len") (hm : X.mg "len" = none) (hg2 : Gl X "set") (hm2 : X.mg "set" = none) (ha : PE X a ta) (hc : X.calm = true := by rfl)
    (na : starEach [a] X.env = (false, eval a X.env) :: starEach [] X.env := by rfl) : PE X (.Call (.Name "len" p) [.Call (.Name "set" p2) [a] [] q] [] pos) (tLenSetT X.K ta) := by
  refine ⟨fun pins s σ H Q I h => ?_⟩
  refine Call_ (ld_blt I hg hm boot_len (callWith_builtin1 (args_cons ?_ rfl) rfl rfl))
  refine Call_ (ld_blt I hg2 hm2 boot_set (callWith_type1 (args_cons (thn (ha.run pins s σ H _ I h) fun v s1 ⟨x, H1, I1, r1, l, xs, e, hq, nd, few, q1⟩ => args_nil ?_) na) na rfl))
  subst e
  cases r1
  obtain ⟨its, r, pl, _⟩ := I1.list hq
  refine set_of_texts (I1.ok.hd hc) pl.isList r nd (by unfold scanBound; omega) fun h' tk hS hk => args_nil ?_
  obtain ⟨o, es, ep, t, ho, hex, hd, _, _, _, hf, hn⟩ := hS
  have I2 : Inv X pins σ H1 { s1 with heap := h', toks := tk } := I1.kept hk
  exact call_len_set ho hex hd hf (by rw [hn]; omega) ⟨.int xs.length, H1, I2.tok _, ⟨_, by rw [hn]⟩, q1⟩
end RwS

set_option Elab.async false
set_option linter.all false
set_option maxRecDepth 100000
set_option maxHeartbeats 4000000
/-! A sheet in the heap; place, made, below. -/
namespace Rw
open PySem PySem.Spec PyProof.Rows L2
structure TxtS (K : PySem.W.Frag) (mg : Str → Option Value) (cS : Addr) : Prop where
  cls : Cls K cS
  nM : NoAttr K cS "names"
  nN : NoAttr K cS "nodes"
  nU : NoAttr K cS "numbers"
  init : MakAt K mg "Sheet" cS "Sheet.__init__" sShInit ["self", "names"]
  place : MetAt K cS "place" "Sheet.place" sPlace ["self", "node"]
  made : MetAt K cS "made" "Sheet.made" sMade ["self", "place", "low", "high"]
  below : MetAt K cS "below" "Sheet.below" sBelow ["self", "node", "place"]
  joined : MetAt K cS "joined" "Sheet.joined" sJoined ["self", "one", "other", "stop", "known"]
  opp : MetAt K cS "opposite" "Sheet.opposite" sOpp ["self", "node", "known"]
  drawn : MetAt K cS "drawn" "Sheet.drawn" sDrawn ["self", "part"]
  need : MetAt K cS "need" "Sheet.need" sNeed ["self", "node"]
  node : MetAt K cS "node" "Sheet.node" sNode ["self", "part"]
  two : MetAt K cS "of_two" "Sheet.of_two" sTwo ["self", "one", "other", "stop"]
  both : MetAt K cS "both" "Sheet.both" sBoth ["self", "one", "other"]
  either : MetAt K cS "either" "Sheet.either" sEither ["self", "one", "other"]
  turned : MetAt K cS "turned" "Sheet.turned" sTurned ["self", "node"]
  shown : MetAt K cS "shown" "Sheet.shown" sShown ["self", "node"]
/-- where a sheet's things stand: itself, its names, its list, its dict -/
structure Ad where
  s : Addr
  n : Addr
  l : Addr
  d : Addr
def tupN (k : Nd) : List V := [.int (k.1 : Nat), .int (k.2.1 : Nat), .int (k.2.2 : Nat)]
def keyN (k : Nd) : List Key := [.inl (k.1 : Nat), .inl (k.2.1 : Nat), .inl (k.2.2 : Nat)]
theorem key_tup (k : Nd) : (keyN k).map kV = tupN k := rfl
theorem keyN_inj {j k : Nd} (h : keyN j = keyN k) : j = k := by
  obtain ⟨a, b, c⟩ := j
  obtain ⟨x, y, z⟩ := k
  unfold keyN at h
  simp only [List.cons.injEq, Sum.inl.injEq, Int.natCast_inj, and_true] at h
  rw [h.1, h.2.1, h.2.2]
def tabF (n : Nat) : List Nd → List (List Key × V)
  | [] => []
  | k :: r => (keyN k, .int (n : Nat)) :: tabF (n + 1) r
def tab (ns : List Nd) : List (List Key × V) := tabF 2 ns
theorem tabF_app : ∀ (ns : List Nd) (n : Nat) (k : Nd), tabF n (ns ++ [k]) = tabF n ns ++ [(keyN k, .int ((n + ns.length : Nat) : Int))]
  | [], n, k => rfl
  | a :: r, n, k => by
    show (keyN a, V.int (n : Nat)) :: tabF (n + 1) (r ++ [k]) = (keyN a, V.int (n : Nat)) :: (tabF (n + 1) r ++ _)
    rw [tabF_app r (n + 1) k, List.length_cons, show n + 1 + r.length = n + (r.length + 1) by omega]
theorem tabF_len : ∀ (ns : List Nd) (n : Nat), (tabF n ns).length = ns.length
  | [], n => rfl
  | a :: r, n => by show (tabF (n + 1) r).length + 1 = r.length + 1; rw [tabF_len r]
theorem tabF_no : ∀ (ns : List Nd) (n : Nat) (k : Nd), k ∉ ns → valV (tabF n ns) (keyN k) = none
  | [], n, k, _ => rfl
  | a :: r, n, k, h => by
    show valV ((keyN a, V.int (n : Nat)) :: tabF (n + 1) r) (keyN k) = none
    rw [valV_neg (p := (keyN a, V.int (n : Nat))) fun e => h (by rw [keyN_inj e]; exact List.mem_cons_self)]
    exact tabF_no r (n + 1) k fun z => h (List.mem_cons_of_mem _ z)
theorem tabF_at : ∀ (ns : List Nd) (n i : Nat) (k : Nd), ns.Nodup → ns[i]? = some k → valV (tabF n ns) (keyN k) = some (.int ((n + i : Nat) : Int))
  | [], n, i, k, _, h => by simp at h
  | a :: r, n, 0, k, nd, h => by
    obtain rfl : a = k := Option.some.inj h
    exact valV_pos (p := (keyN a, V.int (n : Nat))) rfl
  | a :: r, n, i + 1, k, nd, h => by
    obtain ⟨h1, h2⟩ := List.nodup_cons.mp nd
    show valV ((keyN a, V.int (n : Nat)) :: tabF (n + 1) r) (keyN k) = _
    rw [valV_neg (p := (keyN a, V.int (n : Nat))) fun e => h1 (by rw [keyN_inj e]; exact List.mem_of_getElem? (i := i) h)]
    rw [tabF_at r (n + 1) i k h2 h, show n + 1 + i = n + (i + 1) by omega]
abbrev shF (A : Ad) : List (Str × V) := [("names", .ref A.n), ("nodes", .ref A.l), ("numbers", .ref A.d)]
structure Sh (cS : Addr) (H : Hp) (A : Ad) (nm : List Str) (ns : List Nd) : Prop where
  ob : ∃ dx, H A.s = some (.ins cS dx (shF A))
  nms : ∃ o : Obj, o.dict = none ∧ H A.n = some (.frz o (.tup (nm.map V.str)))
  nodes : ∃ rs : List Addr, H A.l = some (.lst (rs.map V.ref)) ∧ rs.length = ns.length ∧ ∀ (i : Nat) r k, rs[i]? = some r → ns[i]? = some k → H r = some (.tup (tupN k))
  dict : H A.d = some (.dT (tab ns))
theorem lkM (A : Ad) : (shF A).lookup ("names" : Str) = some (.ref A.n) := lk1 _ _ _
theorem lkN (A : Ad) : (shF A).lookup ("nodes" : Str) = some (.ref A.l) := by rw [lkS _ _ (by decide +kernel), lk1]
theorem lkU (A : Ad) : (shF A).lookup ("numbers" : Str) = some (.ref A.d) := by rw [lkS _ _ (by decide +kernel), lkS _ _ (by decide +kernel), lk1]
theorem lkX (A : Ad) {m : Str} (h1 : ¬ m = "names") (h2 : ¬ m = "nodes") (h3 : ¬ m = "numbers") : (shF A).lookup m = none := by rw [lkS _ _ h1, lkS _ _ h2, lk0 _ h3]
theorem Sh.ext {cS : Addr} {H H' : Hp} {A : Ad} {nm : List Str} {ns : List Nd} {S : List Addr} (h : Sh cS H A nm ns) (e : Ext S H H') (hl : A.l ∉ S) (hd : A.d ∉ S) : Sh cS H' A nm ns := by
  obtain ⟨dx, h1⟩ := h.ob
  obtain ⟨rs, h2, h3, h4⟩ := h.nodes
  obtain ⟨o, h5, h6⟩ := h.nms
  exact ⟨⟨dx, e.imm _ _ h1 rfl⟩, ⟨o, h5, e.imm _ _ h6 rfl⟩, ⟨rs, e.out _ _ h2 hl, h3, fun i r k a b => e.tup (h4 i r k a b)⟩, e.out _ _ h.dict hd⟩
theorem Sh.sq {K : PySem.W.Frag} {cS : Addr} {H : Hp} {A : Ad} {nm : List Str} {ns : List Nd} (h : Sh cS H A nm ns) : SqT K H A.n (nm.map V.str) := let ⟨o, _, e⟩ := h.nms; .inl (.inr ⟨o, e⟩)
theorem Sh.same {cS : Addr} {H H' : Hp} {A : Ad} {nm : List Str} {ns : List Nd} (h : Sh cS H A nm ns) (e : Same H H') : Sh cS H' A nm ns := h.ext (S := []) (.same e) (by simp) (by simp)
theorem Sh.ld {cS : Addr} {H : Hp} {A : Ad} {nm : List Str} {ns : List Nd} (h : Sh cS H A nm ns) : A.l ≠ A.d := by
  obtain ⟨rs, h2, _⟩ := h.nodes
  exact ne_of h2 h.dict (by intro z; cases z)
/-- what an operation leaves: the sheet with more nodes; of what stood, only its list, its dict and what stands at S are changed -/
structure Stp (cS : Addr) (S : List Addr) (H H' : Hp) (A : Ad) (nm : List Str) (ns ns' : List Nd) : Prop where
  ext : Ext (A.l :: A.d :: S) H H'
  sh : Sh cS H' A nm ns'
  good : Good nm.length ns'
  more : ∃ t, ns' = ns ++ t
section
variable {cS : Addr} {S : List Addr} {H H1 H2 : Hp} {A : Ad} {nm : List Str} {ns ns1 ns2 : List Nd} {n : Nat}
theorem Stp.trans (a : Stp cS S H H1 A nm ns ns1) (b : Stp cS S H1 H2 A nm ns1 ns2) : Stp cS S H H2 A nm ns ns2 := by
  obtain ⟨t, e1⟩ := a.more
  obtain ⟨u, e2⟩ := b.more
  exact ⟨a.ext.trans b.ext, b.sh, b.good, t ++ u, by rw [e2, e1, List.append_assoc]⟩
theorem Stp.refl (h : Sh cS H A nm ns) (g : Good nm.length ns) : Stp cS S H H A nm ns ns := ⟨.refl, h, g, [], (List.append_nil _).symm⟩
theorem Stp.of_same (h : Sh cS H A nm ns) (g : Good nm.length ns) (s : Same H H1) : Stp cS S H H1 A nm ns ns := ⟨.same s, h.same s, g, [], (List.append_nil _).symm⟩
theorem Stp.mono {S' : List Addr} (a : Stp cS S H H1 A nm ns ns1) (h : ∀ b ∈ S, b ∈ S') : Stp cS S' H H1 A nm ns ns1 :=
  ⟨a.ext.mono fun b hb => by
    rcases List.mem_cons.mp hb with z | hb
    · rw [z]; exact List.mem_cons_self
    rcases List.mem_cons.mp hb with z | hb
    · rw [z]; exact List.mem_cons_of_mem _ List.mem_cons_self
    · exact List.mem_cons_of_mem _ (List.mem_cons_of_mem _ (h b hb)), a.sh, a.good, a.more⟩
theorem Stp.drop {p : Addr} (a : Stp cS (p :: S) H H1 A nm ns ns1) (hp : H p = none) : Stp cS S H H1 A nm ns ns1 :=
  ⟨(a.ext.mono (S' := p :: A.l :: A.d :: S) fun b hb => by
    simp only [List.mem_cons] at hb ⊢
    rcases hb with z | z | z | z
    · exact .inr (.inl z)
    · exact .inr (.inr (.inl z))
    · exact .inl z
    · exact .inr (.inr (.inr z))).drop hp, a.sh, a.good, a.more⟩
theorem Stp.len (a : Stp cS S H H1 A nm ns ns1) : ns.length ≤ ns1.length := by
  obtain ⟨t, e⟩ := a.more; rw [e, List.length_append]; omega
theorem Stp.den (a : Stp cS S H H1 A nm ns ns1) (h : n < ns.length + 2) : den ns1 n = den ns n := by
  obtain ⟨t, e⟩ := a.more; rw [e]; exact den_more h t
theorem Stp.plc (a : Stp cS S H H1 A nm ns ns1) {m : Nat} (h : n < ns.length + 2) : plc m ns1 n = plc m ns n := by
  obtain ⟨t, e⟩ := a.more; rw [e]; exact plc_more h t
end
section
variable {P : Program} {w : World} {K : PySem.W.Frag} {mg : Str → Option Value} {base : Heap} {cl : Kd → Addr} {nm : List Str} {cS : Addr}
/-! ### place -/
def spPlace (cS : Addr) (nm : List Str) : Sp := fun vs H Q _ => ∃ A ns n, vs = [.ref A.s, .int (n : Nat)] ∧ Sh cS H A nm ns ∧ n < ns.length + 2 ∧ Q (.int (plc nm.length ns n : Nat)) H
theorem sc_place : FnScope ["self", "node"] ["self", "node"] (defScope sPlace) := ⟨rfl, rfl, rfl, by decide +kernel, rfl, by decide +kernel, by decide +kernel⟩
theorem atI_of {xs : List V} {i : Int} {j : Nat} {v : V} (e : i = (j : Int)) (h : xs[j]? = some v) : atI xs i = some v := by rw [e]; exact atI_nat h
theorem ok_place (T : TxtP K mg cl) (U : TxtS K mg cS) : Met P w K mg base 1 cS "place" (spPlace cS nm) := by
  refine U.place.ok U.cls sc_place (fun vs H Q E h => ?_) fun f cdv _ outer s H vs Q E hr h => ?_
  · obtain ⟨A, ns, n, rfl, _⟩ := h; rfl
  obtain ⟨A, ns, n, rfl, S, hn, q⟩ := h
  obtain ⟨dx, ob⟩ := S.ob
  obtain ⟨rs, hl, ln, at_⟩ := S.nodes
  refine ⟨_, pss_cons (ps_if (pt_cmpR op_lt (pv 1) pe_int (nomark _)) (pss_one (ps_ret (pe_callB call_len_seq (by rfl) T.len PySem.boot_len (pa_cons (pe_fld (pv 0) rfl) pa_nil)))) pss_nil)
    (pss_one (ps_ret (pe_ix ix_tup (pe_ix ix_list (pe_fld (pv 0) rfl) (pe_op op_sub (pv 1) pe_int) (fun _ _ => rfl)) pe_int (fun _ _ => rfl)))), ?_⟩
  refine ⟨_, rfl, _, _, rfl, rfl, _, rfl, ?_⟩
  by_cases h2 : n < 2
  · rw [decide_eq_true (by omega : ((n : Nat) : Int) < 2)]
    refine ⟨_, rfl, A.s, _, dx, _, _, rfl, ob, U.cls, U.nM, lkM A, A.n, _, rfl, .inr S.sq, ?_⟩
    rw [List.length_map]
    rw [plc_lo h2] at q
    exact q
  · rw [decide_eq_false (by omega : ¬ ((n : Nat) : Int) < 2)]
    obtain ⟨r, hr2⟩ : ∃ r, rs[n - 2]? = some r := ⟨_, List.getElem?_eq_getElem (by omega)⟩
    obtain ⟨k, hk⟩ : ∃ k, ns[n - 2]? = some k := ⟨_, List.getElem?_eq_getElem (by omega)⟩
    refine ⟨_, rfl, A.s, _, dx, _, _, rfl, ob, U.cls, U.nN, lkN A, _, rfl, _, _, rfl, rfl, A.l, _, _, .ref r, rfl, rfl, SqL.of hl, atI_of (j := n - 2) (by omega) (by rw [List.getElem?_map, hr2]; rfl), r, _, 0, .int (k.1 : Nat), rfl, rfl, SqT.of (at_ _ _ _ hr2 hk), rfl, ?_⟩
    have e : plc nm.length ns n = k.1 := by
      have := plc_at (m := nm.length) (p := k.1) (l := k.2.1) (h := k.2.2) hk
      rw [show n - 2 + 2 = n by omega] at this
      exact this
    rw [← e]
    exact q
/-! ### made -/
/-- the node of p, l, h -/
def isNode (ns : List Nd) (r p l h : Nat) : Prop := ∀ x : Row, den ns r x = if x p = true then den ns h x else den ns l x
def spMade (cS : Addr) (nm : List Str) : Sp := fun vs H Q _ => ∃ A ns p l h, vs = [.ref A.s, .int (p : Nat), .int (l : Nat), .int (h : Nat)] ∧ Sh cS H A nm ns ∧ Good nm.length ns ∧ p < nm.length ∧ l < ns.length + 2 ∧ h < ns.length + 2 ∧
  p < plc nm.length ns l ∧ p < plc nm.length ns h ∧ cnt nm.length ns ≤ 1743 ∧
  ∀ H' ns' r, Stp cS [] H H' A nm ns ns' → r < ns'.length + 2 → isNode ns' r p l h → p ≤ plc nm.length ns' r → cnt nm.length ns' ≤ cnt nm.length ns + (if p + 3 < nm.length then 1 else 0) → Q (.int (r : Nat)) H'
theorem sc_made : FnScope ["self", "place", "low", "high", "key"] ["self", "place", "low", "high"] (defScope sMade) := ⟨rfl, rfl, rfl, by decide +kernel, rfl, by decide +kernel, by decide +kernel⟩
theorem decI (a b : Nat) : decide (V.int (a : Nat) = V.int (b : Nat)) = decide (a = b) := by
  by_cases h : a = b
  · rw [decide_eq_true h, h]; exact decide_eq_true rfl
  · rw [decide_eq_false h]; exact decide_eq_false fun z => h (by injection z with z; omega)
theorem ok_made (T : TxtP K mg cl) (U : TxtS K mg cS) : Met P w K mg base 1 cS "made" (spMade cS nm) := by
  refine U.made.ok U.cls sc_made (fun vs H Q E h => ?_) fun f cdv _ outer s H vs Q E hr h => ?_
  · obtain ⟨A, ns, p, l, h, rfl, _⟩ := h; rfl
  obtain ⟨A, ns, p, l, h, rfl, S, G, pm, ll, lh, pl, ph, few, q⟩ := h
  obtain ⟨dx, ob⟩ := S.ob
  obtain ⟨rs, hl, ln, at_⟩ := S.nodes
  have nd := sc_made.nd
  refine ⟨_, pss_cons (ps_if (pt_cmpR op_eq (pv 2) (pv 3) (nomark _)) (pss_one (ps_ret (pv 2))) pss_nil)
    (pss_cons (ps_set (i := 4) nd rfl (Or.inl rfl) (pe_tup (pa_cons (pv 1) (pa_cons (pv 2) (pa_cons (pv 3) pa_nil)))))
    (pss_cons (ps_if (pt_cmp (pc_dnotin (hu_of hr) (pv 4) (pe_fld (pv 0) rfl)))
      (pss_cons (ps_if (pt_cmpR op_eq (pe_callB call_len_seq (by rfl) T.len PySem.boot_len (pa_cons (pe_fld (pv 0) rfl) pa_nil)) (pe_gc T.MNODES) (nomark _)) (pss_one ps_never) pss_nil)
      (pss_cons (ps_expr (pe_bm PySem.F.plainAttrs_list PySem.F.slot_list_append PySem.F.type_list_append mt_append (pe_fld (pv 0) rfl) (pa_cons (pv 4) pa_nil)))
      (pss_one (ps_dput (hu_of hr) (pe_fld (pv 0) rfl) (pv 4) (pe_op op_add (pe_callB call_len_seq (by rfl) T.len PySem.boot_len (pa_cons (pe_fld (pv 0) rfl) pa_nil)) pe_int) rfl)))) pss_nil)
    (pss_one (ps_ret (pe_dget (hu_of hr) (pe_fld (pv 0) rfl) (pv 4) (fun _ _ => rfl)))))), ?_⟩
  refine ⟨_, rfl, _, rfl, rfl, _, rfl, ?_⟩
  rw [decI]
  by_cases e : l = h
  · rw [decide_eq_true e]
    subst e
    exact ⟨_, rfl, q H ns l (.refl S G) ll (fun x => by split <;> rfl) (Nat.le_of_lt pl) (Nat.le_add_right _ _)⟩
  rw [decide_eq_false e]
  refine ⟨_, rfl, _, rfl, _, rfl, (by show 3 ≤ sizeLine; decide), fun t ht => ?_⟩
  have sT := same_new ht (.tup [.int (p : Nat), .int (l : Nat), .int (h : Nat)])
  have ob1 := sT _ _ ob
  have hl1 := sT _ _ hl
  have hd1 := sT _ _ S.dict
  have ht1 : upd H t (.tup [.int (p : Nat), .int (l : Nat), .int (h : Nat)]) t = some (.tup ((keyN (p, l, h)).map kV)) := upd_same
  refine ⟨_, rfl, _, rfl, A.s, _, dx, _, _, rfl, ob1, U.cls, U.nU, lkU A, A.d, _, rfl, DGet.t hd1 ht1, _, rfl, ?_⟩
  by_cases hm : (p, l, h) ∈ ns
  · obtain ⟨i, hi⟩ := List.mem_iff_getElem?.mp hm
    have lt := (List.getElem?_eq_some_iff.mp hi).1
    have ev : valV (tab ns) (keyN (p, l, h)) = some (.int ((2 + i : Nat) : Int)) := tabF_at ns 2 i _ G.nd hi
    rw [ev]
    refine ⟨_, rfl, A.s, _, dx, _, _, rfl, ob1, U.cls, U.nU, lkU A, _, rfl, A.d, _, rfl, by rw [← ev]; exact DGet.t hd1 ht1, ?_⟩
    refine q _ ns (2 + i) (.of_same S G sT) (by omega) (fun x => ?_) ?_ (Nat.le_add_right _ _)
    · rw [Nat.add_comm]; exact den_at G hi x
    · rw [Nat.add_comm, plc_at hi]; exact Nat.le_refl _
  · have ev : valV (tab ns) (keyN (p, l, h)) = none := tabF_no ns 2 _ hm
    rw [ev]
    have lens := len_le G
    refine ⟨_, rfl, A.s, _, dx, _, _, rfl, ob1, U.cls, U.nN, lkN A, A.l, _, rfl, .inl (SqL.of hl1), rfl, _, rfl, ?_⟩
    rw [List.length_map, ln, show decide (V.int ((ns.length : Nat) : Int) = V.int 2000) = false from decide_eq_false fun z => by injection z with z; omega]
    refine ⟨_, rfl, A.s, _, dx, _, _, rfl, ob1, U.cls, U.nN, lkN A, .inl ⟨rfl, _, SqL.of hl1⟩, _, rfl, A.l, _, _, rfl, rfl, hl1, by rw [List.length_map, ln]; exact sz (by omega), ?_⟩
    have lt : A.l ≠ t := ne_of_none hl ht
    have dt : A.d ≠ t := ne_of_none S.dict ht
    have st : A.s ≠ t := ne_of_none ob ht
    have ld := S.ld
    have sl : A.s ≠ A.l := ne_of ob hl (by intro z; cases z)
    have sd : A.s ≠ A.d := ne_of ob S.dict (by intro z; cases z)
    have e2 : Ext [A.l, A.d] (upd H t (.tup [.int (p : Nat), .int (l : Nat), .int (h : Nat)])) _ := .put (u := .lst (rs.map V.ref ++ [V.ref t])) hl1 rfl (by simp)
    have ob2 := e2.imm _ _ ob1 rfl
    have hd2 : upd (upd H t (.tup [.int (p : Nat), .int (l : Nat), .int (h : Nat)])) A.l (.lst (rs.map V.ref ++ [V.ref t])) A.d = some (.dT (tab ns)) := by rw [upd_ne ld.symm]; exact hd1
    have ht2 := e2.tup ht1
    refine ⟨_, rfl, A.s, _, dx, _, _, rfl, ob2, U.cls, U.nN, lkN A, A.l, _, rfl, .inl (SqL.of upd_same), _, _, rfl, rfl, ?_⟩
    refine ⟨_, rfl, A.s, _, dx, _, _, rfl, ob2, U.cls, U.nU, lkU A, _, rfl, A.d, _, rfl, DPut.t hd2 ht2 (by unfold tab; rw [tabF_len]; exact sz (by omega)), ?_⟩
    have elen : (((rs.map V.ref ++ [V.ref t]).length : Nat) : Int) + 1 = ((2 + ns.length : Nat) : Int) := by rw [List.length_append, List.length_map, List.length_singleton, ln]; omega
    have eput : putK (tab ns) (keyN (p, l, h)) (.int ((((rs.map V.ref ++ [V.ref t]).length : Nat) : Int) + 1)) = tab (ns ++ [(p, l, h)]) := by
      rw [putK_new _ ev, elen]; exact (tabF_app ns 2 (p, l, h)).symm
    rw [eput]
    have e3 : Ext [A.l, A.d] _ _ := .put (u := .dT (tab (ns ++ [(p, l, h)]))) hd2 rfl (by simp)
    have G' := good_snoc G hm pm ll lh e pl ph
    have eAll := (Ext.same sT).trans (e2.trans e3)
    have S' : Sh cS _ A nm (ns ++ [(p, l, h)]) := ⟨⟨dx, e3.imm _ _ ob2 rfl⟩, (let ⟨o, h5, h6⟩ := S.nms; ⟨o, h5, eAll.imm _ _ h6 rfl⟩), ⟨rs ++ [t], by rw [upd_ne ld, upd_same, List.map_append]; rfl, by rw [List.length_append, List.length_append, ln]; rfl, fun i r k hr hk => ?_⟩, upd_same⟩
    · refine ⟨_, rfl, A.s, _, dx, _, _, rfl, e3.imm _ _ ob2 rfl, U.cls, U.nU, lkU A, _, rfl, A.d, .int ((2 + ns.length : Nat) : Int), rfl, ?_, ?_⟩
      · have := DGet.t (a := A.d) (b := t) (k := keyN (p, l, h)) (kvs := tab (ns ++ [(p, l, h)])) (H := upd (upd (upd H t (.tup [.int (p : Nat), .int (l : Nat), .int (h : Nat)])) A.l (.lst (rs.map V.ref ++ [V.ref t]))) A.d (.dT (tab (ns ++ [(p, l, h)])))) upd_same (e3.tup ht2)
        rw [show valV (tab (ns ++ [(p, l, h)])) (keyN (p, l, h)) = some (.int ((2 + ns.length : Nat) : Int)) from tabF_at _ 2 ns.length _ G'.nd (at_snoc ns _)] at this
        exact this
      · refine q _ (ns ++ [(p, l, h)]) (2 + ns.length) ⟨eAll, S', G', [(p, l, h)], rfl⟩ (by rw [List.length_append, List.length_singleton]; omega) (fun x => ?_) ?_ ?_
        · rw [Nat.add_comm]; exact den_at G' (at_snoc ns _) x
        · rw [Nat.add_comm, plc_at (at_snoc ns (p, l, h))]; exact Nat.le_refl _
        · rw [cnt_snoc]; exact Nat.le_refl _
    · by_cases hi : i < rs.length
      · rw [List.getElem?_append_left hi] at hr
        rw [List.getElem?_append_left (by omega)] at hk
        exact eAll.tup (at_ i r k hr hk)
      · have hlt := (List.getElem?_eq_some_iff.mp hr).1
        rw [List.length_append, List.length_singleton] at hlt
        obtain rfl : i = rs.length := by omega
        rw [List.getElem?_append_right (Nat.le_refl _), Nat.sub_self] at hr
        rw [ln, at_snoc] at hk
        rw [← Option.some.inj (show some t = some r from hr), ← Option.some.inj hk]
        exact e3.tup ht2
end
end Rw

set_option Elab.async false
set_option linter.all false
set_option maxRecDepth 100000
set_option maxHeartbeats 4000000
/-! below, joined, opposite. -/
namespace Rw
open PySem PySem.Spec PyProof.Rows L2
section
variable {P : Program} {w : World} {K : PySem.W.Frag} {mg : Str → Option Value} {base : Heap} {cl : Kd → Addr} {nm : List Str} {cS : Addr}
theorem ng {A : Ad} {m : Str} (h : (decide (m = "names") || decide (m = "nodes") || decide (m = "numbers")) = false) : (shF A).lookup m = none := by
  simp only [Bool.or_eq_false_iff, decide_eq_false_iff_not] at h
  exact lkX A h.1.1 h.1.2 h.2
theorem boot_min' : bootBuiltins "min" = some (.builtin "min") := by decide +kernel
/-! ### below -/
def spBelow (cS : Addr) (nm : List Str) : Sp := fun vs H Q _ => ∃ A ns n p, vs = [.ref A.s, .int (n : Nat), .int (p : Nat)] ∧ Sh cS H A nm ns ∧ Good nm.length ns ∧ n < ns.length + 2 ∧ p ≤ plc nm.length ns n ∧ p < nm.length ∧
  ∀ H' q a b, Same H H' → H' q = some (.tup [.int (a : Nat), .int (b : Nat)]) → a < ns.length + 2 → b < ns.length + 2 → p < plc nm.length ns a → p < plc nm.length ns b → isNode ns n p a b → Q (.ref q) H'
theorem sc_below : FnScope ["self", "node", "place"] ["self", "node", "place"] (defScope sBelow) := ⟨rfl, rfl, rfl, by decide +kernel, rfl, by decide +kernel, by decide +kernel⟩
theorem ok_below (T : TxtP K mg cl) (U : TxtS K mg cS) : Met P w K mg base 2 cS "below" (spBelow cS nm) := by
  refine U.below.ok U.cls sc_below (fun vs H Q E h => ?_) fun f cdv _ outer s H vs Q E hr h => ?_
  · obtain ⟨A, ns, n, p, rfl, _⟩ := h; rfl
  obtain ⟨A, ns, n, p, rfl, S, G, hn, hp, pm, q⟩ := h
  obtain ⟨dx, ob⟩ := S.ob
  obtain ⟨rs, hl, ln, at_⟩ := S.nodes
  refine ⟨_, pss_cons (ps_if (pt_cmpR op_gt (qm (ok_place (nm := nm) T U) hr (Nat.le_refl _) (pv 0) (pa_cons (pv 1) pa_nil)) (pv 2) (nomark _)) (pss_one (ps_ret (pe_tup (pa_cons (pv 1) (pa_cons (pv 1) pa_nil))))) pss_nil)
    (pss_one (ps_ret (pe_slice sl_tup (pe_ix ix_list (pe_fld (pv 0) rfl) (pe_op op_sub (pv 1) pe_int) (fun _ _ => rfl)) (po_some pe_int) po_none))), ?_⟩
  refine ⟨_, rfl, A.s, dx, _, rfl, ob, ng (by decide +kernel), _, rfl, A, ns, n, rfl, S, hn, _, rfl, _, _, rfl, rfl, _, rfl, ?_⟩
  by_cases lt : p < plc nm.length ns n
  · rw [decide_eq_true (by omega : ((p : Nat) : Int) < ((plc nm.length ns n : Nat) : Int))]
    refine ⟨_, rfl, _, rfl, (by show 2 ≤ sizeLine; decide), fun t ht => ?_⟩
    exact q _ t n n (same_new ht _) upd_same hn hn lt lt fun x => by split <;> rfl
  · rw [decide_eq_false (by omega : ¬ ((p : Nat) : Int) < ((plc nm.length ns n : Nat) : Int))]
    have ep : plc nm.length ns n = p := by omega
    rcases node_cases hn with e | e | ⟨i, p', l, h, e, en⟩
    · rw [plc_lo (by omega)] at ep; omega
    · rw [plc_lo (by omega)] at ep; omega
    · subst e
      rw [plc_at en] at ep
      subst ep
      obtain ⟨pm', li, hi, nlh, pl, ph⟩ := G.ok i p' l h en
      have il := (List.getElem?_eq_some_iff.mp en).1
      obtain ⟨r, hr2⟩ : ∃ r, rs[i]? = some r := ⟨_, List.getElem?_eq_getElem (by omega)⟩
      have hr3 := at_ _ _ _ hr2 en
      refine ⟨_, rfl, A.s, _, dx, _, _, rfl, ob, U.cls, U.nN, lkN A, _, rfl, _, _, rfl, rfl, A.l, _, _, .ref r, rfl, rfl, SqL.of hl, atI_of (j := i) (by omega) (by rw [List.getElem?_map, hr2]; rfl), 1, rfl, r, _, rfl, SqT.of hr3, ?_, fun t ht => ?_⟩
      · intro z; exact absurd z.1 (by show ¬ (1 = 0); decide)
      · exact q _ t l h (same_new ht _) upd_same (by omega) (by omega) pl ph fun x => den_at G en x
/-! ### joined -/
def opB (st : Nat) (x y : Bool) : Bool := if st = 0 then x && y else x || y
def KnJ (m : Nat) (ns : List Nd) (st : Nat) (kvs : List (List Key × V)) : Prop :=
  ∀ e ∈ kvs, ∃ a b r : Nat, e = ([.inl (a : Nat), .inl (b : Nat)], .int (r : Nat)) ∧ a < ns.length + 2 ∧ b < ns.length + 2 ∧ r < ns.length + 2 ∧ (∀ x, den ns r x = opB st (den ns a x) (den ns b x)) ∧ min (plc m ns a) (plc m ns b) ≤ plc m ns r
theorem KnJ.more {m st : Nat} {ns : List Nd} {kvs : List (List Key × V)} (h : KnJ m ns st kvs) (t : List Nd) : KnJ m (ns ++ t) st kvs := fun e he => by
  obtain ⟨a, b, r, e1, la, lb, lr, d, p⟩ := h e he
  refine ⟨a, b, r, e1, by rw [List.length_append]; omega, by rw [List.length_append]; omega, by rw [List.length_append]; omega, fun x => ?_, ?_⟩
  · rw [den_more la, den_more lb, den_more lr]; exact d x
  · rw [plc_more la, plc_more lb, plc_more lr]; exact p
theorem mem_putK {κ : Type} [DecidableEq κ] {kvs : List (κ × V)} {k : κ} {v : V} {e : κ × V} (h : e ∈ putK kvs k v) : e = (k, v) ∨ e ∈ kvs := by
  unfold putK at h
  split at h
  · obtain ⟨p, hp, ep⟩ := List.mem_map.mp h
    by_cases z : p.1 = k
    · rw [if_pos z] at ep; left; rw [← ep, z]
    · rw [if_neg z] at ep; right; rw [← ep]; exact hp
  · rcases List.mem_append.mp h with h | h
    · exact .inr h
    · exact .inl (List.mem_singleton.mp h)
theorem len_putK {κ : Type} [DecidableEq κ] (kvs : List (κ × V)) (k : κ) (v : V) : (putK kvs k v).length ≤ kvs.length + 1 := by
  unfold putK
  split
  · rw [List.length_map]; omega
  · rw [List.length_append, List.length_singleton]; omega
theorem valV_mem {κ : Type} [DecidableEq κ] {kvs : List (κ × V)} {k : κ} {v : V} (h : valV kvs k = some v) : (k, v) ∈ kvs := by
  unfold valV at h
  obtain ⟨p, hp, e⟩ := Option.map_eq_some_iff.mp h
  have h1 := List.mem_of_find?_eq_some hp
  have h2 : p.1 = k := of_decide_eq_true (p := p.1 = k) (List.find?_some (p := fun kv : κ × V => decide (kv.1 = k)) hp)
  rw [← h2, ← e]
  exact h1
def spJoined (cS : Addr) (nm : List Str) (st d : Nat) : Sp := fun vs H Q _ => ∃ A ns a b kd kvs, vs = [.ref A.s, .int (a : Nat), .int (b : Nat), .int (st : Nat), .ref kd] ∧ Sh cS H A nm ns ∧ Good nm.length ns ∧ a < ns.length + 2 ∧ b < ns.length + 2 ∧
  nm.length ≤ plc nm.length ns a + d ∧ nm.length ≤ plc nm.length ns b + d ∧ kd ≠ A.d ∧ H kd = some (.dT kvs) ∧ KnJ nm.length ns st kvs ∧ kvs.length + U d ≤ 1000 ∧ cnt nm.length ns + T d ≤ 1743 ∧
  ∀ H' ns' kvs' r, Stp cS [kd] H H' A nm ns ns' → H' kd = some (.dT kvs') → KnJ nm.length ns' st kvs' → kvs'.length ≤ kvs.length + U d → cnt nm.length ns' ≤ cnt nm.length ns + T d → r < ns'.length + 2 →
    (∀ x, den ns' r x = opB st (den ns a x) (den ns b x)) → min (plc nm.length ns a) (plc nm.length ns b) ≤ plc nm.length ns' r → Q (.int (r : Nat)) H'
theorem sc_joined : FnScope ["self", "one", "other", "stop", "known", "place", "here", "there", "low"] ["self", "one", "other", "stop", "known"] (defScope sJoined) := ⟨rfl, rfl, rfl, by decide +kernel, rfl, by decide +kernel, by decide +kernel⟩
theorem len_joined {st d : Nat} : ∀ vs H Q E, spJoined cS nm st d vs H Q E → vs.length = ["self", "one", "other", "stop", "known"].length := fun vs H Q E h => by
  obtain ⟨A, ns, a, b, kd, kvs, rfl, _⟩ := h; rfl
theorem dec1m {a st : Nat} (h : st ≤ 1) : decide (V.int (a : Nat) = V.int (1 - (st : Nat))) = decide (a = 1 - st) := by
  rw [show (1 : Int) - (st : Nat) = ((1 - st : Nat) : Int) by omega]
  exact decI _ _
/-- the three tests ahead: what is told without a look at the nodes -/
theorem head_of {st : Nat} {ns : List Nd} {m a b : Nat} (hs : st ≤ 1) (la : a < ns.length + 2) (lb : b < ns.length + 2) (g : Good m ns) :
    ((a = st ∨ b = st) → (∀ x, den ns st x = opB st (den ns a x) (den ns b x)) ∧ min (plc m ns a) (plc m ns b) ≤ plc m ns st) ∧
    (¬ (a = st ∨ b = st) → (a = 1 - st ∨ a = b) → (∀ x, den ns b x = opB st (den ns a x) (den ns b x)) ∧ min (plc m ns a) (plc m ns b) ≤ plc m ns b) ∧
    (¬ (a = st ∨ b = st) → ¬ (a = 1 - st ∨ a = b) → b = 1 - st → (∀ x, den ns a x = opB st (den ns a x) (den ns b x)) ∧ min (plc m ns a) (plc m ns b) ≤ plc m ns a) := by
  have pa := plc_le g la
  have pb := plc_le g lb
  have ps : plc m ns st = m := plc_lo (by omega)
  have s01 : st = 0 ∨ st = 1 := by omega
  refine ⟨fun h => ⟨fun x => ?_, by omega⟩, fun _ h => ⟨fun x => ?_, by omega⟩, fun _ _ h => ⟨fun x => ?_, by omega⟩⟩
  · rcases s01 with z | z <;> rcases h with h | h <;> rw [h, z] <;> unfold opB
    · rw [if_pos rfl, den_0]; show false = (false && _); rfl
    · rw [if_pos rfl, den_0]; show false = (_ && false); rw [Bool.and_false]
    · rw [if_neg (by decide), den_1]; show true = (true || _); rfl
    · rw [if_neg (by decide), den_1]; show true = (_ || true); rw [Bool.or_true]
  · rcases s01 with z | z <;> rcases h with h | h <;> rw [h, z] <;> unfold opB
    · rw [if_pos rfl, den_1]; show _ = (true && _); rfl
    · rw [if_pos rfl, Bool.and_self]
    · rw [if_neg (by decide), den_0]; show _ = (false || _); rfl
    · rw [if_neg (by decide), Bool.or_self]
  · rcases s01 with z | z <;> rw [h, z] <;> unfold opB
    · rw [if_pos rfl, den_1]; show _ = (_ && true); rw [Bool.and_true]
    · rw [if_neg (by decide), den_0]; show _ = (_ || false); rw [Bool.or_false]
theorem joined_step (TP : TxtP K mg cl) (TS : TxtS K mg cS) {k d st : Nat} (hs : st ≤ 1) (hk : 2 ≤ k) (ih : Met P w K mg base k cS "joined" (spJoined cS nm st d)) : Met P w K mg base (k + 1) cS "joined" (spJoined cS nm st (d + 1)) := by
  refine TS.joined.ok TS.cls sc_joined len_joined fun f cdv _ outer s H vs Q E hr h => ?_
  obtain ⟨A, ns, a, b, kd, kvs, rfl, S, G, la, lb, da, db, kne, hkd, kn, kfew, cfew, q⟩ := h
  obtain ⟨dx, ob⟩ := S.ob
  have nd := sc_joined.nd
  refine ⟨_, pss_cons (ps_if (PW.pt (pw_or (pt_cmpR op_eq (pv 1) (pv 3) (nomark _)) (pw_or1 (pt_cmpR op_eq (pv 2) (pv 3) (nomark _))))) (pss_one (ps_ret (pv 3))) pss_nil)
    (pss_cons (ps_if (PW.pt (pw_or (pt_cmpR op_eq (pv 1) (pe_op op_sub pe_int (pv 3)) (nomark _)) (pw_or1 (pt_cmpR op_eq (pv 1) (pv 2) (nomark _))))) (pss_one (ps_ret (pv 2))) pss_nil)
    (pss_cons (ps_if (pt_cmpR op_eq (pv 2) (pe_op op_sub pe_int (pv 3)) (nomark _)) (pss_one (ps_ret (pv 1))) pss_nil)
    (pss_cons (ps_if (pt_cmp (pc_dnotin (hu_of hr) (pe_tup (pa_cons (pv 1) (pa_cons (pv 2) pa_nil))) (pv 4)))
      (pss_cons (ps_set (i := 5) nd rfl (Or.inl rfl) (pe_callB (call_min2 rfl) (by rfl) TP.min boot_min' (pa_cons (qm (ok_place (nm := nm) TP TS) hr (by omega) (pv 0) (pa_cons (pv 1) pa_nil)) (pa_cons (qm (ok_place (nm := nm) TP TS) hr (by omega) (pv 0) (pa_cons (pv 2) pa_nil)) pa_nil))))
      (pss_cons (ps_set (i := 6) nd rfl (Or.inl rfl) (qm (ok_below (nm := nm) TP TS) hr hk (pv 0) (pa_cons (pv 1) (pa_cons (pv 5) pa_nil))))
      (pss_cons (ps_set (i := 7) nd rfl (Or.inl rfl) (qm (ok_below (nm := nm) TP TS) hr hk (pv 0) (pa_cons (pv 2) (pa_cons (pv 5) pa_nil))))
      (pss_cons (ps_set (i := 8) nd rfl (Or.inl rfl) (qm ih hr (Nat.le_refl _) (pv 0) (pa_cons (pe_ix ix_tup (pv 6) pe_int (fun _ _ => rfl)) (pa_cons (pe_ix ix_tup (pv 7) pe_int (fun _ _ => rfl)) (pa_cons (pv 3) (pa_cons (pv 4) pa_nil))))))
      (pss_one (ps_dput (hu_of hr) (pv 4) (pe_tup (pa_cons (pv 1) (pa_cons (pv 2) pa_nil)))
        (qm (ok_made (nm := nm) TP TS) hr (by omega) (pv 0) (pa_cons (pv 5) (pa_cons (pv 8) (pa_cons (qm ih hr (Nat.le_refl _) (pv 0) (pa_cons (pe_ix ix_tup (pv 6) pe_int (fun _ _ => rfl)) (pa_cons (pe_ix ix_tup (pv 7) pe_int (fun _ _ => rfl)) (pa_cons (pv 3) (pa_cons (pv 4) pa_nil))))) pa_nil)))) rfl)))))) pss_nil)
    (pss_one (ps_ret (pe_dget (hu_of hr) (pv 4) (pe_tup (pa_cons (pv 1) (pa_cons (pv 2) pa_nil))) (fun _ _ => rfl))))))), ?_⟩
  obtain ⟨hd1, hd2, hd3⟩ := head_of hs la lb G (a := a) (b := b)
  have fin : ∀ r, r < ns.length + 2 → (∀ x, den ns r x = opB st (den ns a x) (den ns b x)) → min (plc nm.length ns a) (plc nm.length ns b) ≤ plc nm.length ns r → Q (.int (r : Nat)) H := fun r lr dr pr =>
    q H ns kvs r (.refl S G) hkd kn (Nat.le_add_right _ _) (Nat.le_add_right _ _) lr dr pr
  refine ⟨_, rfl, _, rfl, rfl, _, rfl, ?_⟩
  rw [decI]
  by_cases c1 : a = st
  · rw [decide_eq_true c1]
    exact ⟨_, rfl, fin st (by omega) (hd1 (.inl c1)).1 (hd1 (.inl c1)).2⟩
  rw [decide_eq_false c1]
  refine ⟨_, rfl, _, rfl, rfl, _, rfl, ?_⟩
  rw [decI]
  by_cases c2 : b = st
  · rw [decide_eq_true c2]
    exact ⟨_, rfl, fin st (by omega) (hd1 (.inr c2)).1 (hd1 (.inr c2)).2⟩
  rw [decide_eq_false c2]
  have n12 : ¬ (a = st ∨ b = st) := fun z => z.elim c1 c2
  refine ⟨_, rfl, _, rfl, _, _, rfl, rfl, rfl, _, rfl, ?_⟩
  rw [dec1m hs]
  by_cases c3 : a = 1 - st
  · rw [decide_eq_true c3]
    exact ⟨_, rfl, fin b lb (hd2 n12 (.inl c3)).1 (hd2 n12 (.inl c3)).2⟩
  rw [decide_eq_false c3]
  refine ⟨_, rfl, _, rfl, rfl, _, rfl, ?_⟩
  rw [decI]
  by_cases c4 : a = b
  · rw [decide_eq_true c4]
    exact ⟨_, rfl, fin b lb (hd2 n12 (.inr c4)).1 (hd2 n12 (.inr c4)).2⟩
  rw [decide_eq_false c4]
  have n34 : ¬ (a = 1 - st ∨ a = b) := fun z => z.elim c3 c4
  refine ⟨_, rfl, _, rfl, _, _, rfl, rfl, rfl, _, rfl, ?_⟩
  rw [dec1m hs]
  by_cases c5 : b = 1 - st
  · rw [decide_eq_true c5]
    exact ⟨_, rfl, fin a la (hd3 n12 n34 c5).1 (hd3 n12 n34 c5).2⟩
  rw [decide_eq_false c5]
  -- both are nodes of their own
  have plo : ∀ n, n < ns.length + 2 → n ≠ st → n ≠ 1 - st → plc nm.length ns n < nm.length := fun n hn z1 z2 => by
    rcases node_cases hn with e | e | ⟨i, p, l, h, e, en⟩
    · omega
    · omega
    · rw [e, plc_at en]; exact (G.ok _ _ _ _ en).1
  have pam := plo a la c1 c3
  have pbm := plo b lb c2 c5
  refine ⟨_, rfl, _, rfl, (by show 2 ≤ sizeLine; decide), fun t ht => ?_⟩
  have s1 := same_new ht (.tup [.int (a : Nat), .int (b : Nat)])
  have hkd1 := s1 _ _ hkd
  have S1 := S.same s1
  have ob1 := s1 _ _ ob
  have ht1 : upd H t (.tup [.int (a : Nat), .int (b : Nat)]) t = some (.tup (([.inl ((a : Nat) : Int), .inl ((b : Nat) : Int)] : List Key).map kV)) := upd_same
  refine ⟨_, rfl, kd, _, rfl, DGet.t hkd1 ht1, _, rfl, ?_⟩
  generalize upd H t (.tup [.int (a : Nat), .int (b : Nat)]) = H1 at s1 hkd1 S1 ob1 ht1 ⊢
  cases hv : valV kvs ([.inl ((a : Nat) : Int), .inl ((b : Nat) : Int)] : List Key) with
  | some v =>
    obtain ⟨a', b', r, e, _, _, lr, dr, pr⟩ := kn _ (valV_mem hv)
    injection e with e1 e2
    simp only [List.cons.injEq, Sum.inl.injEq, Int.natCast_inj, and_true] at e1
    obtain ⟨rfl, rfl⟩ := e1
    subst e2
    refine ⟨_, rfl, _, rfl, _, rfl, (by show 2 ≤ sizeLine; decide), fun t2 ht2 => ?_⟩
    have s2 := same_new ht2 (.tup [.int (a : Nat), .int (b : Nat)])
    refine ⟨kd, _, rfl, by rw [← hv]; exact DGet.t (s2 _ _ hkd1) upd_same, ?_⟩
    exact q _ ns kvs r (.of_same S G (s1.trans s2)) (s2 _ _ hkd1) kn (Nat.le_add_right _ _) (Nat.le_add_right _ _) lr dr pr
  | none =>
    have emin : (if ((plc nm.length ns b : Nat) : Int) < ((plc nm.length ns a : Nat) : Int) then ((plc nm.length ns b : Nat) : Int) else ((plc nm.length ns a : Nat) : Int)) = ((min (plc nm.length ns a) (plc nm.length ns b) : Nat) : Int) := by split <;> omega
    refine ⟨_, rfl, A.s, dx, _, rfl, ob1, ng (by decide +kernel), _, rfl, A, ns, a, rfl, S1, la, _, rfl, A.s, dx, _, rfl, ob1, ng (by decide +kernel), _, rfl, A, ns, b, rfl, S1, lb, _, _, rfl, ?_⟩
    rw [emin]
    have hpa : min (plc nm.length ns a) (plc nm.length ns b) ≤ plc nm.length ns a := by omega
    have hpb : min (plc nm.length ns a) (plc nm.length ns b) ≤ plc nm.length ns b := by omega
    have hpm : min (plc nm.length ns a) (plc nm.length ns b) < nm.length := by omega
    have hpd : nm.length ≤ min (plc nm.length ns a) (plc nm.length ns b) + (d + 1) := by omega
    generalize hpe : min (plc nm.length ns a) (plc nm.length ns b) = p at q hpa hpb hpm hpd fin ⊢
    refine ⟨_, rfl, A.s, dx, _, rfl, ob1, ng (by decide +kernel), _, rfl, _, rfl, A, ns, a, p, rfl, S1, G, la, hpa, hpm, fun H2 q1 a0 a1 s2 hq1 la0 la1 pa0 pa1 fa => ?_⟩
    refine ⟨_, rfl, A.s, dx, _, rfl, s2 _ _ ob1, ng (by decide +kernel), _, rfl, _, rfl, A, ns, b, p, rfl, S1.same s2, G, lb, hpb, hpm, fun H3 q2 b0 b1 s3 hq2 lb0 lb1 pb0 pb1 fb => ?_⟩
    have s23 := s2.trans s3
    have U2 := U_step d
    obtain ⟨T2, T3⟩ := T_step d
    refine ⟨_, rfl, A.s, dx, _, rfl, s23 _ _ ob1, ng (by decide +kernel), _, rfl, q1, _, 0, _, rfl, rfl, SqT.of (s3 _ _ hq1), rfl, _, rfl, q2, _, 0, _, rfl, rfl, SqT.of hq2, rfl, _, rfl, _, rfl, ?_⟩
    refine ⟨A, ns, a0, b0, kd, kvs, rfl, S1.same s23, G, la0, lb0, by omega, by omega, kne, s23 _ _ hkd1, kn, by omega, by omega, fun H4 ns4 kvs4 r4 st4 hkd4 kn4 kl4 c4 lr4 d4 p4 => ?_⟩
    have le4 := st4.len
    obtain ⟨dx4, ob4⟩ := st4.sh.ob
    have hq14 := st4.ext.tup (s3 _ _ hq1)
    have hq24 := st4.ext.tup hq2
    refine ⟨_, rfl, A.s, dx4, _, rfl, ob4, ng (by decide +kernel), _, rfl, _, rfl, _, rfl, A.s, dx4, _, rfl, ob4, ng (by decide +kernel), _, rfl, q1, _, 1, _, rfl, rfl, SqT.of hq14, rfl, _, rfl, q2, _, 1, _, rfl, rfl, SqT.of hq24, rfl, _, rfl, _, rfl, ?_⟩
    refine ⟨A, ns4, a1, b1, kd, kvs4, rfl, st4.sh, st4.good, by omega, by omega, by rw [st4.plc la1]; omega, by rw [st4.plc lb1]; omega, kne, hkd4, kn4, by omega, by omega, fun H5 ns5 kvs5 r5 st5 hkd5 kn5 kl5 c5 lr5 d5 p5 => ?_⟩
    have le5 := st5.len
    rw [st4.plc la1, st4.plc lb1] at p5
    refine ⟨A, ns5, p, r4, r5, rfl, st5.sh, st5.good, hpm, by omega, lr5, by rw [st5.plc lr4]; omega, by omega, by omega, fun H6 ns6 r6 st6 lr6 f6 p6 c6 => ?_⟩
    have le6 := st6.len
    have st46 : Stp cS [kd] H1 H6 A nm ns ns6 := ((Stp.of_same S1 G s23).trans (st4.trans st5)).trans (st6.mono fun _ h => by cases h)
    have hkl : kd ≠ A.l := by
      obtain ⟨rs, h2, _⟩ := S.nodes
      exact ne_of hkd h2 (by intro z; cases z)
    have hkd6 : H6 kd = some (.dT kvs5) := st6.ext.out _ _ hkd5 (by simp [hkl, kne])
    refine ⟨_, rfl, _, rfl, _, rfl, (by show 2 ≤ sizeLine; decide), fun t6 ht6 => ?_⟩
    have s7 := same_new ht6 (.tup [.int (a : Nat), .int (b : Nat)])
    have hkd7 := s7 _ _ hkd6
    have hk7 : upd H6 t6 (.tup [.int (a : Nat), .int (b : Nat)]) t6 = some (.tup (([.inl ((a : Nat) : Int), .inl ((b : Nat) : Int)] : List Key).map kV)) := upd_same
    refine ⟨kd, _, rfl, DPut.t hkd7 hk7 (sz (by omega)), ?_⟩
    generalize upd H6 t6 (.tup [.int (a : Nat), .int (b : Nat)]) = H7 at s7 hkd7 hk7 ⊢
    have den6 : ∀ x, den ns6 r6 x = opB st (den ns a x) (den ns b x) := fun x => by
      rw [f6 x, st6.den lr5, st6.den (by omega), st5.den lr4, d5 x, d4 x, st4.den la1, st4.den lb1, fa x, fb x]
      cases x p <;> rfl
    have x8 : Ext [kd] H7 (upd H7 kd (.dT (putK kvs5 ([.inl ((a : Nat) : Int), .inl ((b : Nat) : Int)] : List Key) (.int ((r6 : Nat) : Int))))) := .put hkd7 rfl (List.mem_singleton.mpr rfl)
    have hv8 : valV (putK kvs5 ([.inl ((a : Nat) : Int), .inl ((b : Nat) : Int)] : List Key) (.int ((r6 : Nat) : Int))) ([.inl ((a : Nat) : Int), .inl ((b : Nat) : Int)] : List Key) = some (.int ((r6 : Nat) : Int)) := by rw [valV_put, if_pos rfl]
    have hl8 := len_putK kvs5 ([.inl ((a : Nat) : Int), .inl ((b : Nat) : Int)] : List Key) (.int ((r6 : Nat) : Int))
    have kn6 : KnJ nm.length ns6 st kvs5 := by
      obtain ⟨t, e⟩ := st6.more
      rw [e]; exact kn5.more t
    have kn8 : KnJ nm.length ns6 st (putK kvs5 ([.inl ((a : Nat) : Int), .inl ((b : Nat) : Int)] : List Key) (.int ((r6 : Nat) : Int))) := fun e he => by
      rcases mem_putK he with e1 | he
      · refine ⟨a, b, r6, e1, by have := st46.len; omega, by have := st46.len; omega, lr6, fun x => ?_, ?_⟩
        · rw [st46.den la, st46.den lb]; exact den6 x
        · rw [st46.plc la, st46.plc lb]; omega
      · exact kn6 e he
    generalize putK kvs5 ([.inl ((a : Nat) : Int), .inl ((b : Nat) : Int)] : List Key) (.int ((r6 : Nat) : Int)) = kvs8 at x8 hv8 hl8 kn8 ⊢
    refine ⟨_, rfl, _, rfl, _, rfl, (by show 2 ≤ sizeLine; decide), fun t9 ht9 => ?_⟩
    have s9 := same_new ht9 (.tup [.int (a : Nat), .int (b : Nat)])
    have hkd8 : upd H7 kd (.dT kvs8) kd = some (.dT kvs8) := upd_same
    refine ⟨kd, _, rfl, by rw [← hv8]; exact DGet.t (s9 _ _ hkd8) upd_same, ?_⟩
    have extA : Ext [A.l, A.d, kd] H1 _ := (st46.ext.trans (.same s7)).trans ((x8.mono fun b hb => by rw [List.mem_singleton.mp hb]; simp).trans (.same s9))
    have shA : Sh cS _ A nm ns6 := ((st46.sh.same s7).ext x8 (by simp [hkl.symm]) (by simp [kne.symm])).same s9
    refine q _ ns6 kvs8 r6 ⟨(Ext.same s1).trans extA, shA, st6.good, st46.more⟩ (s9 _ _ hkd8) kn8 (by omega) ?_ lr6 den6 p6
    by_cases h3 : p + 3 < nm.length
    · have := T3 (by omega)
      rw [if_pos h3] at c6
      omega
    · rw [if_neg h3] at c6
      omega
theorem joined_zero (TP : TxtP K mg cl) (TS : TxtS K mg cS) {st : Nat} (hs : st ≤ 1) : Met P w K mg base 1 cS "joined" (spJoined cS nm st 0) := by
  refine TS.joined.ok TS.cls sc_joined len_joined fun f cdv _ outer s H vs Q E hr h => ?_
  obtain ⟨A, ns, a, b, kd, kvs, rfl, S, G, la, lb, da, db, kne, hkd, kn, kfew, cfew, q⟩ := h
  refine ⟨_, pss_cons (ps_if (PW.pt (pw_or (pt_cmpR op_eq (pv 1) (pv 3) (nomark _)) (pw_or1 (pt_cmpR op_eq (pv 2) (pv 3) (nomark _))))) (pss_one (ps_ret (pv 3))) pss_nil)
    (pss_cons (ps_if (PW.pt (pw_or (pt_cmpR op_eq (pv 1) (pe_op op_sub pe_int (pv 3)) (nomark _)) (pw_or1 (pt_cmpR op_eq (pv 1) (pv 2) (nomark _))))) (pss_one (ps_ret (pv 2))) pss_nil) pss_never), ?_⟩
  obtain ⟨hd1, hd2, hd3⟩ := head_of hs la lb G (a := a) (b := b)
  have fin : ∀ r, r < ns.length + 2 → (∀ x, den ns r x = opB st (den ns a x) (den ns b x)) → min (plc nm.length ns a) (plc nm.length ns b) ≤ plc nm.length ns r → Q (.int (r : Nat)) H := fun r lr dr pr =>
    q H ns kvs r (.refl S G) hkd kn (Nat.le_add_right _ _) (Nat.le_add_right _ _) lr dr pr
  refine ⟨_, rfl, _, rfl, rfl, _, rfl, ?_⟩
  rw [decI]
  by_cases c1 : a = st
  · rw [decide_eq_true c1]
    exact ⟨_, rfl, fin st (by omega) (hd1 (.inl c1)).1 (hd1 (.inl c1)).2⟩
  rw [decide_eq_false c1]
  refine ⟨_, rfl, _, rfl, rfl, _, rfl, ?_⟩
  rw [decI]
  by_cases c2 : b = st
  · rw [decide_eq_true c2]
    exact ⟨_, rfl, fin st (by omega) (hd1 (.inr c2)).1 (hd1 (.inr c2)).2⟩
  rw [decide_eq_false c2]
  refine ⟨_, rfl, _, rfl, _, _, rfl, rfl, rfl, _, rfl, ?_⟩
  rw [dec1m hs]
  by_cases c3 : a = 1 - st
  · rw [decide_eq_true c3]
    exact ⟨_, rfl, fin b lb (hd2 (fun z => z.elim c1 c2) (.inl c3)).1 (hd2 (fun z => z.elim c1 c2) (.inl c3)).2⟩
  exfalso
  rcases node_cases la with e | e | ⟨i, p, l, h, e, en⟩
  · omega
  · omega
  · rw [e, plc_at en] at da
    have := (G.ok _ _ _ _ en).1
    omega
theorem ok_joined (TP : TxtP K mg cl) (TS : TxtS K mg cS) {st : Nat} (hs : st ≤ 1) : ∀ d, Met P w K mg base (d + 3) cS "joined" (spJoined cS nm st d)
  | 0 => (joined_zero TP TS hs).mono (by decide)
  | d + 1 => joined_step TP TS hs (Nat.le_add_left 2 (d + 1)) (ok_joined TP TS hs d)
/-! ### opposite -/
def KnO (m : Nat) (ns : List Nd) (kvs : List (Key × V)) : Prop :=
  ∀ e ∈ kvs, ∃ a r : Nat, e = (.inl (a : Nat), .int (r : Nat)) ∧ a < ns.length + 2 ∧ r < ns.length + 2 ∧ (∀ x, den ns r x = !den ns a x) ∧ plc m ns a ≤ plc m ns r
theorem KnO.more {m : Nat} {ns : List Nd} {kvs : List (Key × V)} (h : KnO m ns kvs) (t : List Nd) : KnO m (ns ++ t) kvs := fun e he => by
  obtain ⟨a, r, e1, la, lr, d, p⟩ := h e he
  refine ⟨a, r, e1, by rw [List.length_append]; omega, by rw [List.length_append]; omega, fun x => ?_, ?_⟩
  · rw [den_more la, den_more lr]; exact d x
  · rw [plc_more la, plc_more lr]; exact p
def spOpp (cS : Addr) (nm : List Str) (d : Nat) : Sp := fun vs H Q _ => ∃ A ns n kd kvs, vs = [.ref A.s, .int (n : Nat), .ref kd] ∧ Sh cS H A nm ns ∧ Good nm.length ns ∧ n < ns.length + 2 ∧ nm.length ≤ plc nm.length ns n + d ∧
  H kd = some (.dK kvs) ∧ KnO nm.length ns kvs ∧ kvs.length + U d ≤ 1000 ∧ cnt nm.length ns + T d ≤ 1743 ∧
  ∀ H' ns' kvs' r, Stp cS [kd] H H' A nm ns ns' → H' kd = some (.dK kvs') → KnO nm.length ns' kvs' → kvs'.length ≤ kvs.length + U d → cnt nm.length ns' ≤ cnt nm.length ns + T d → r < ns'.length + 2 →
    (∀ x, den ns' r x = !den ns n x) → plc nm.length ns n ≤ plc nm.length ns' r → Q (.int (r : Nat)) H'
theorem sc_opp : FnScope ["self", "node", "known", "place", "low", "high"] ["self", "node", "known"] (defScope sOpp) := ⟨rfl, rfl, rfl, by decide +kernel, rfl, by decide +kernel, by decide +kernel⟩
theorem len_opp {d : Nat} : ∀ vs H Q E, spOpp cS nm d vs H Q E → vs.length = ["self", "node", "known"].length := fun vs H Q E h => by
  obtain ⟨A, ns, n, kd, kvs, rfl, _⟩ := h; rfl
theorem opp_lo {ns : List Nd} {n : Nat} (h : n < 2) : ∀ x, den ns (1 - n) x = !den ns n x := fun x => by
  have : n = 0 ∨ n = 1 := by omega
  rcases this with rfl | rfl
  · rw [den_0, den_1]; rfl
  · rw [den_0, den_1]; rfl
theorem opp_zero (TP : TxtP K mg cl) (TS : TxtS K mg cS) : Met P w K mg base 1 cS "opposite" (spOpp cS nm 0) := by
  refine TS.opp.ok TS.cls sc_opp len_opp fun f cdv _ outer s H vs Q E hr h => ?_
  obtain ⟨A, ns, n, kd, kvs, rfl, S, G, ln, dn, hkd, kn, kfew, cfew, q⟩ := h
  refine ⟨_, pss_cons (ps_if (pt_cmpR op_lt (pv 1) pe_int (nomark _)) (pss_one (ps_ret (pe_op op_sub pe_int (pv 1)))) pss_nil) pss_never, ?_⟩
  refine ⟨_, rfl, _, _, rfl, rfl, _, rfl, ?_⟩
  have n2 : n < 2 := by
    rcases node_cases ln with e | e | ⟨i, p, l, h, e, en⟩
    · omega
    · omega
    · rw [e, plc_at en] at dn
      have := (G.ok _ _ _ _ en).1
      omega
  rw [decide_eq_true (by omega : ((n : Nat) : Int) < 2)]
  refine ⟨_, rfl, _, _, rfl, rfl, ?_⟩
  show Q (.int (1 - ((n : Nat) : Int))) H
  rw [show (1 : Int) - ((n : Nat) : Int) = ((1 - n : Nat) : Int) by omega]
  exact q H ns kvs (1 - n) (.refl S G) hkd kn (Nat.le_add_right _ _) (Nat.le_add_right _ _) (by omega) (opp_lo n2) (by rw [plc_lo n2, plc_lo (by omega)]; exact Nat.le_refl _)
theorem opp_step (TP : TxtP K mg cl) (TS : TxtS K mg cS) {k d : Nat} (hk : 1 ≤ k) (ih : Met P w K mg base k cS "opposite" (spOpp cS nm d)) : Met P w K mg base (k + 1) cS "opposite" (spOpp cS nm (d + 1)) := by
  refine TS.opp.ok TS.cls sc_opp len_opp fun f cdv _ outer s H vs Q E hr h => ?_
  obtain ⟨A, ns, n, kd, kvs, rfl, S, G, ln, dn, hkd, kn, kfew, cfew, q⟩ := h
  obtain ⟨dx, ob⟩ := S.ob
  obtain ⟨rs, hl, lrs, at_⟩ := S.nodes
  have nd := sc_opp.nd
  refine ⟨_, pss_cons (ps_if (pt_cmpR op_lt (pv 1) pe_int (nomark _)) (pss_one (ps_ret (pe_op op_sub pe_int (pv 1)))) pss_nil)
    (pss_cons (ps_if (pt_cmp (pc_dnotin (hu_of hr) (pv 1) (pv 2)))
      (pss_cons (ps_asg (pe_ix ix_list (pe_fld (pv 0) rfl) (pe_op op_sub (pv 1) pe_int) (fun _ _ => rfl)) (pg_tup rfl (pgs_cons (pg_name (i := 3) nd rfl (Or.inl rfl)) (pgs_cons (pg_name (i := 4) nd rfl (Or.inl rfl)) (pgs_cons (pg_name (i := 5) nd rfl (Or.inl rfl)) pgs_nil)))))
      (pss_one (ps_dput (hu_of hr) (pv 2) (pv 1) (qm (ok_made (nm := nm) TP TS) hr hk (pv 0) (pa_cons (pv 3) (pa_cons (qm ih hr (Nat.le_refl _) (pv 0) (pa_cons (pv 4) (pa_cons (pv 2) pa_nil))) (pa_cons (qm ih hr (Nat.le_refl _) (pv 0) (pa_cons (pv 5) (pa_cons (pv 2) pa_nil))) pa_nil)))) rfl))) pss_nil)
    (pss_one (ps_ret (pe_dget (hu_of hr) (pv 2) (pv 1) (fun _ _ => rfl))))), ?_⟩
  refine ⟨_, rfl, _, _, rfl, rfl, _, rfl, ?_⟩
  by_cases n2 : n < 2
  · rw [decide_eq_true (by omega : ((n : Nat) : Int) < 2)]
    refine ⟨_, rfl, _, _, rfl, rfl, ?_⟩
    show Q (.int (1 - ((n : Nat) : Int))) H
    rw [show (1 : Int) - ((n : Nat) : Int) = ((1 - n : Nat) : Int) by omega]
    exact q H ns kvs (1 - n) (.refl S G) hkd kn (Nat.le_add_right _ _) (Nat.le_add_right _ _) (by omega) (opp_lo n2) (by rw [plc_lo n2, plc_lo (by omega)]; exact Nat.le_refl _)
  rw [decide_eq_false (by omega : ¬ ((n : Nat) : Int) < 2)]
  refine ⟨_, rfl, _, rfl, kd, _, rfl, DGet.k (k := Sum.inl ((n : Nat) : Int)) hkd, _, rfl, ?_⟩
  cases hv : valV kvs (Sum.inl ((n : Nat) : Int) : Key) with
  | some v =>
    obtain ⟨a', r, e, _, lr, dr, pr⟩ := kn _ (valV_mem hv)
    injection e with e1 e2
    have e3 : n = a' := by injection e1 with e1; omega
    subst e3 e2
    refine ⟨_, rfl, _, rfl, kd, _, rfl, by rw [← hv]; exact DGet.k (k := Sum.inl ((n : Nat) : Int)) hkd, ?_⟩
    exact q _ ns kvs r (.refl S G) hkd kn (Nat.le_add_right _ _) (Nat.le_add_right _ _) lr dr pr
  | none =>
    obtain ⟨i, p, l, h, rfl, en⟩ : ∃ i p l h, n = i + 2 ∧ ns[i]? = some (p, l, h) := by
      rcases node_cases ln with e | e | x
      · omega
      · omega
      · exact x
    obtain ⟨pm, li, hi, nlh, pl, ph⟩ := G.ok i p l h en
    have il := (List.getElem?_eq_some_iff.mp en).1
    rw [plc_at en] at dn
    obtain ⟨r0, hr0⟩ : ∃ r, rs[i]? = some r := ⟨_, List.getElem?_eq_getElem (by omega)⟩
    have hr1 := at_ _ _ _ hr0 en
    have U2 := U_step d
    obtain ⟨T2, T3⟩ := T_step d
    refine ⟨_, rfl, A.s, _, dx, _, _, rfl, ob, TS.cls, TS.nN, lkN A, _, rfl, _, _, rfl, rfl, A.l, _, _, .ref r0, rfl, rfl, SqL.of hl, atI_of (j := i) (by omega) (by rw [List.getElem?_map, hr0]; rfl), r0, _, rfl, SqT.of hr1, rfl, _, _, rfl, _, _, rfl, _, _, rfl, rfl, ?_⟩
    refine ⟨_, rfl, A.s, dx, _, rfl, ob, ng (by decide +kernel), _, rfl, _, rfl, A.s, dx, _, rfl, ob, ng (by decide +kernel), _, rfl, _, rfl, ?_⟩
    refine ⟨A, ns, l, kd, kvs, rfl, S, G, by omega, by omega, hkd, kn, by omega, by omega, fun H4 ns4 kvs4 r4 st4 hkd4 kn4 kl4 c4 lr4 d4 p4 => ?_⟩
    have le4 := st4.len
    obtain ⟨dx4, ob4⟩ := st4.sh.ob
    refine ⟨_, rfl, A.s, dx4, _, rfl, ob4, ng (by decide +kernel), _, rfl, _, rfl, ?_⟩
    have lh : h < ns.length + 2 := by omega
    have ll : l < ns.length + 2 := by omega
    refine ⟨A, ns4, h, kd, kvs4, rfl, st4.sh, st4.good, by omega, by rw [st4.plc lh]; omega, hkd4, kn4, by omega, by omega, fun H5 ns5 kvs5 r5 st5 hkd5 kn5 kl5 c5 lr5 d5 p5 => ?_⟩
    have le5 := st5.len
    rw [st4.plc lh] at p5
    refine ⟨A, ns5, p, r4, r5, rfl, st5.sh, st5.good, pm, by omega, lr5, by rw [st5.plc lr4]; omega, by omega, by omega, fun H6 ns6 r6 st6 lr6 f6 p6 c6 => ?_⟩
    have st46 : Stp cS [kd] H H6 A nm ns ns6 := (st4.trans st5).trans (st6.mono fun _ h => by cases h)
    have hkl : kd ≠ A.l := ne_of hkd hl (by intro z; cases z)
    have hkn : kd ≠ A.d := ne_of hkd S.dict (by intro z; cases z)
    have hkd6 : H6 kd = some (.dK kvs5) := st6.ext.out _ _ hkd5 (by simp [hkl, hkn])
    refine ⟨_, rfl, _, rfl, kd, _, rfl, DPut.k (k := Sum.inl ((i + 2 : Nat) : Int)) hkd6 (sz (by omega)), ?_⟩
    have den6 : ∀ x, den ns6 r6 x = !den ns (i + 2) x := fun x => by
      rw [f6 x, st6.den lr5, st6.den (by omega), st5.den lr4, d5 x, d4 x, st4.den lh, den_at G en]
      cases x p <;> rfl
    have x8 : Ext [kd] H6 (upd H6 kd (.dK (putK kvs5 (Sum.inl ((i + 2 : Nat) : Int) : Key) (.int ((r6 : Nat) : Int))))) := .put hkd6 rfl (List.mem_singleton.mpr rfl)
    have hv8 : valV (putK kvs5 (Sum.inl ((i + 2 : Nat) : Int) : Key) (.int ((r6 : Nat) : Int))) (Sum.inl ((i + 2 : Nat) : Int) : Key) = some (.int ((r6 : Nat) : Int)) := by rw [valV_put, if_pos rfl]
    have hl8 := len_putK kvs5 (Sum.inl ((i + 2 : Nat) : Int) : Key) (.int ((r6 : Nat) : Int))
    have kn6 : KnO nm.length ns6 kvs5 := by
      obtain ⟨t, e⟩ := st6.more
      rw [e]; exact kn5.more t
    have kn8 : KnO nm.length ns6 (putK kvs5 (Sum.inl ((i + 2 : Nat) : Int) : Key) (.int ((r6 : Nat) : Int))) := fun e he => by
      rcases mem_putK he with e1 | he
      · refine ⟨i + 2, r6, e1, by have := st46.len; omega, lr6, fun x => ?_, ?_⟩
        · rw [st46.den ln]; exact den6 x
        · rw [st46.plc ln, plc_at en]; omega
      · exact kn6 e he
    generalize putK kvs5 (Sum.inl ((i + 2 : Nat) : Int) : Key) (.int ((r6 : Nat) : Int)) = kvs8 at x8 hv8 hl8 kn8 ⊢
    have hkd8 : upd H6 kd (.dK kvs8) kd = some (.dK kvs8) := upd_same
    refine ⟨_, rfl, _, rfl, kd, _, rfl, by rw [← hv8]; exact DGet.k (k := Sum.inl ((i + 2 : Nat) : Int)) hkd8, ?_⟩
    have extA : Ext [A.l, A.d, kd] H (upd H6 kd (.dK kvs8)) := st46.ext.trans (x8.mono fun b hb => by rw [List.mem_singleton.mp hb]; simp)
    have shA : Sh cS (upd H6 kd (.dK kvs8)) A nm ns6 := st46.sh.ext x8 (by simp [hkl.symm]) (by simp [hkn.symm])
    refine q _ ns6 kvs8 r6 ⟨extA, shA, st6.good, st46.more⟩ hkd8 kn8 (by omega) ?_ lr6 den6 (by rw [plc_at en]; exact p6)
    by_cases h3 : p + 3 < nm.length
    · have := T3 (by omega)
      rw [if_pos h3] at c6
      omega
    · rw [if_neg h3] at c6
      omega
theorem ok_opp (TP : TxtP K mg cl) (TS : TxtS K mg cS) : ∀ d, Met P w K mg base (d + 1) cS "opposite" (spOpp cS nm d)
  | 0 => opp_zero TP TS
  | d + 1 => opp_step TP TS (Nat.le_add_left 1 d) (ok_opp TP TS d)
end
end Rw

set_option Elab.async false
set_option linter.all false
set_option maxRecDepth 100000
set_option maxHeartbeats 4000000
/-! A sheet is made; drawn, need, node, of_two, both, either, turned, shown. -/
namespace Rw
open PySem PySem.Spec PyProof.Rows L2
section
variable {X : Cx}
/-- tuple(xs), a new tuple that is known to its object -/
theorem call_tupFrz : CallR X (.type "tuple") (fun xs H Q => ∃ p ys, xs = [.ref p] ∧ SqL X.K H p ys ∧ ∀ l (o : Obj), H l = none → o.dict = none → Q (.ref l) (upd H l (.frz o (.tup ys)))) := by
  intro pins s σ H xs us Q I r ⟨p, ys, e, hq, q⟩
  subst e
  obtain ⟨u, rfl, ru⟩ := vals1 r
  cases ru
  obtain ⟨its, rv, pl, hz⟩ := I.list hq
  have hl := rv.length
  refine call_tuple_list pl.isList (fun h' kp => ?_) (by simp only [List.size_toArray]; omega)
  have J : Inv X pins σ H { s with heap := h' } := I.kept (t' := s.toks) kp
  have nf : H h'.objs.size = none := J.hok.fresh (Nat.le_refl _)
  exact ⟨.ref h'.objs.size, _, J.laid (t' := s.toks) (o := .frz { cls := .type "tuple", data := .seq its.toArray } (.tup ys)) (fun b o e => Heap.get?_push_of_some _ e) (Nat.le_refl _)
    ⟨Heap.get?_push_size _ rfl, hz, its, rv, IsTup.new _ _⟩, rfl, q _ _ nf rfl⟩
/-- a method of such a tuple -/
def tFzT (r : V → List V → Hp → VK → Prop) (to : TE) (t : TA) : TE := fun σ H Q => to σ H fun x H1 => (∃ p ob xs, x = .ref p ∧ H1 p = some (.frz ob (.tup xs)) ∧ ob.dict = none) ∧ t σ H1 fun xs H2 => r x xs H2 Q
theorem pe_fzT {o e : Expr} {es : List Expr} {to : TE} {t : TA} {name : Str} {apos cpos : Pos} {id : String} {r : V → List V → Hp → VK → Prop} (slot : Slot "tuple" name id) (hty : typeOf (.builtin id) = pure (.type "method_descriptor")) (hm : MtR X id r) (ho : PE X o to) (ha : PA X (e :: es) t)
    (hbase : attributeBase o name X.env (eval o X.env) = eval o X.env := by rfl)
    (hfew : ((backTo cpos (starEach (e :: es) X.env)).all (fun x => !x.1) && (backToKw cpos (keywordEach [] X.env)).all (fun x => x.1.isSome)
      && decide ((e :: es).length + ([] : List Keyword).length + (if ([] : List Keyword).isEmpty then 0 else 1) < 30)) = true := by rfl)
    (hline : (apos.endLine == cpos.line) = true := by rfl) (hs : starEach (e :: es) X.env = (false, eval e X.env) :: starEach es X.env := by rfl) (hplain : (backTo cpos (starEach es X.env)).any (·.1) = false := by rfl) :
    PE X (.Call (.Attribute o name apos) (e :: es) [] cpos) (tFzT r to t) := by
  refine ⟨fun pins s σ H Q I h => ?_⟩
  refine wpAny_Call_method_late hbase hfew hline rfl (thn (ho.run pins s σ H _ I h) fun v s1 ⟨x, H1, I1, r1, ⟨p, ob, xs, ex, hp, hd⟩, q1⟩ => ?_)
  obtain ⟨g1, g2⟩ := (show ObjOk X.prog X.w H1 s1.heap p (.frz ob (.tup xs)) from I1.hok p _ hp)
  obtain ⟨_, its, rv, ob2, h1, h2, h3⟩ := (show ObjOk X.prog X.w H1 s1.heap p (.tup xs) from g2)
  have ev : v = .ref p := by rw [ex] at r1; exact r1
  refine ⟨"tuple", id, PySem.F.plainAttrs_tuple, slot, hty, ?_, fun a ea => ?_, ?_⟩
  · rw [ev]; exact ⟨ob2, h1, h2⟩
  · rw [ev] at ea
    cases ea
    exact ⟨ob, g1, hd⟩
  have hA := ha.run cpos pins s1 σ H1 _ I1 q1
  rw [hs] at hA ⊢
  refine Calls.callWith_builtin (by show (false || (backTo cpos (starEach es X.env)).any (·.1)) = false; rw [hplain]; rfl) (Calls.evalArgs_plain ?_)
  exact thn hA fun us s2 ⟨vs, H2, I2, r2, q2⟩ => hm pins s2 σ H2 x vs v us Q I2 r1 r2 q2
end
section
variable {P : Program} {w : World} {K : PySem.W.Frag} {mg : Str → Option Value} {base : Heap} {cl : Kd → Addr} {nm : List Str} {cS : Addr}
/-! ### Sheet(names) -/
def spShInit (cS : Addr) : Sp := fun vs H Q _ => ∃ p dx l nm, vs = [.ref p, .ref l] ∧ H l = some (.lst (nm.map V.str)) ∧ Nms nm ∧ H p = some (.ins cS dx []) ∧
  ∀ H' A, A.s = p → Sh cS H' A nm [] → Made H H' p → H A.l = none → H A.d = none → Q .non H'
theorem sc_shInit : FnScope ["self", "names", "name"] ["self", "names"] (defScope sShInit) := ⟨rfl, rfl, rfl, by decide +kernel, rfl, by decide +kernel, by decide +kernel⟩
theorem put2 (x v : V) : putF "nodes" v [("names", x)] = ([("names", x), ("nodes", v)] : List (Str × V)) := by
  show (if ("names" : Str) = "nodes" then [(("names" : Str), v)] else (("names" : Str), x) :: putF "nodes" v []) = _
  rw [if_neg (by decide +kernel)]; rfl
theorem put3 (x y v : V) : putF "numbers" v [("names", x), ("nodes", y)] = ([("names", x), ("nodes", y), ("numbers", v)] : List (Str × V)) := by
  show (if ("names" : Str) = "numbers" then _ else (("names" : Str), x) :: (if ("nodes" : Str) = "numbers" then _ else (("nodes" : Str), y) :: putF "numbers" v [])) = _
  rw [if_neg (by decide +kernel), if_neg (by decide +kernel)]; rfl
theorem ok_shInit (TP : TxtP K mg cl) (TS : TxtS K mg cS) : Mak P w K mg base 3 "Sheet" cS (spShInit cS) := by
  refine TS.init.ok sc_shInit (fun vs H Q E h => ?_) fun f cdv _ outer s H vs Q E hr h => ?_
  · obtain ⟨p, dx, l, nm, rfl, _⟩ := h; rfl
  obtain ⟨p, dx, l, nm, rfl, hl, hn, hp, q⟩ := h
  have nd := sc_shInit.nd
  refine ⟨_, pss_cons (ps_for PassesOwn.never rfl (pi_list (pv 1)) (pg_name (i := 2) nd rfl (Or.inl rfl))
      (pss_one (ps_if (pt_not (pt_val (qc (ok_isName TP) hr (Nat.le_refl _) (pa_cons (pv 2) pa_nil)))) (pss_one ps_never) pss_nil)))
    (pss_cons (ps_if (PW.pt (pw_or (pt_cmpR op_gt (pe_callB call_len_seq (by rfl) TP.len PySem.boot_len (pa_cons (pv 1) pa_nil)) (pe_gc TP.MNAMES) (nomark _))
        (pw_or1 (pt_cmpR op_lt (RwS.pe_lenSetT (by rfl) TP.len (by rfl) TP.set (pv 1)) (pe_callB call_len_seq (by rfl) TP.len PySem.boot_len (pa_cons (pv 1) pa_nil)) (nomark _))))) (pss_one ps_never) pss_nil)
    (pss_cons (ps_fld (pv 0) (pe_callTy call_tupFrz (by rfl) TP.tuple boot_tuple' (pa_cons (pv 1) pa_nil)) rfl)
    (pss_cons (ps_fld (pv 0) (pe_lst pa_nil) rfl) (pss_one (ps_fld (pv 0) pe_dnewT rfl))))), ?_⟩
  refine ⟨_, rfl, l, rfl, ⟨_, SqL.of hl⟩, for_list (K := K) (a := l) (xs := nm.map V.str) (fun i σ H' => H' = H ∧ ∃ o, σ = [some (.ref p), some (.ref l), o]) ⟨rfl, _, rfl⟩ (fun i σ H' _ h => by rw [h.1]; exact SqL.of hl) ?_ ?_⟩
  · rintro i x σ H' ex ⟨rfl, o, rfl⟩
    obtain ⟨y, hy, rfl⟩ := List.mem_map.mp (List.mem_of_getElem? ex)
    exact ⟨_, rfl, y, rfl, hn.one y hy, true, rfl, rfl, _, rfl⟩
  · rintro σ H' ⟨rfl, o, rfl⟩
    have few := hn.few
    refine ⟨_, rfl, l, _, rfl, .inl (SqL.of hl), _, _, rfl, rfl, _, rfl, ?_⟩
    rw [decide_eq_false (by rw [List.length_map]; omega : ¬ (60 : Int) < (((nm.map V.str).length : Nat) : Int))]
    refine ⟨_, rfl, l, nm, rfl, SqL.of hl, hn.nd, by omega, _, rfl, l, _, rfl, .inl (SqL.of hl), _, _, rfl, rfl, _, rfl, ?_⟩
    rw [decide_eq_false (by rw [List.length_map]; omega : ¬ ((nm.length : Nat) : Int) < (((nm.map V.str).length : Nat) : Int))]
    refine ⟨_, rfl, l, _, rfl, SqL.of hl, fun n ob hn0 hob => ?_⟩
    have pn : p ≠ n := ne_of_none hp hn0
    refine ⟨_, rfl, p, _, dx, [], rfl, (by rw [upd_ne pn]; exact hp), TS.cls, TS.nM, (by show 0 < 1000; decide), ?_⟩
    refine ⟨Nat.zero_le _, fun L hL => ?_⟩
    have pL : p ≠ L := ne_of_none (upd_same) hL
    have nL : n ≠ L := ne_of_none (by rw [upd_ne pn.symm, upd_same]) hL
    have hL0 : H' L = none := by rw [upd_ne pL.symm, upd_ne nL.symm] at hL; exact hL
    refine ⟨_, rfl, p, _, dx, _, rfl, (by rw [upd_ne pL, upd_same]), TS.cls, TS.nN, (by show 1 < 1000; decide), fun D hD => ?_⟩
    have pD : p ≠ D := ne_of_none (upd_same) hD
    have LD : L ≠ D := ne_of_none (by rw [upd_ne pL.symm, upd_same]) hD
    have nD : n ≠ D := ne_of_none (by rw [upd_ne pn.symm, upd_ne nL, upd_ne pn.symm, upd_same]) hD
    have hD0 : H' D = none := by rw [upd_ne pD.symm, upd_ne LD.symm, upd_ne pD.symm, upd_ne nD.symm] at hD; exact hD
    refine ⟨_, rfl, p, _, dx, _, rfl, (by rw [upd_ne pD, upd_same]), TS.cls, TS.nU, (by rw [show putF "names" (V.ref n) [] = ([("names", V.ref n)] : List (Str × V)) from rfl, put2]; show 2 < 1000; decide), ?_⟩
    rw [show putF "names" (V.ref n) [] = ([("names", V.ref n)] : List (Str × V)) from rfl, put2, put3]
    refine q _ ⟨p, n, L, D⟩ rfl ⟨⟨dx, upd_same⟩, ⟨ob, hob, ?_⟩, ⟨[], ?_, rfl, fun i r k e => by simp at e⟩, ?_⟩ (fun b o e ne => ?_) hL0 hD0
    · show upd _ p _ n = _
      rw [upd_ne pn.symm, upd_ne nD, upd_ne pn.symm, upd_ne nL, upd_ne pn.symm, upd_same]
    · show upd _ p _ L = _
      rw [upd_ne pL.symm, upd_ne LD, upd_ne pL.symm, upd_same]; rfl
    · show upd _ p _ D = _
      rw [upd_ne pD.symm, upd_same]; rfl
    · rw [upd_ne ne, upd_ne (ne_of_none e hD0), upd_ne ne, upd_ne (ne_of_none e hL0), upd_ne ne, upd_ne (ne_of_none e hn0)]; exact e
/-! ### drawn -/
def spDrawn (cl : Kd → Addr) (cS : Addr) (nm : List Str) (d : Nat) : Sp := fun vs H Q _ => ∃ A ns v t, vs = [.ref A.s, v] ∧ Sh cS H A nm ns ∧ Good nm.length ns ∧ PartAt cl nm H v t ∧ t.depth ≤ d ∧ t.wf nm.length ∧ Nms nm ∧ cnt nm.length ns + 7 * t.ops ≤ 1743 ∧
  ∀ H' ns' r, Stp cS [] H H' A nm ns ns' → r < ns'.length + 2 → (∀ x, den ns' r x = t.ev x) → cnt nm.length ns' ≤ cnt nm.length ns + 7 * t.ops → Q (.int (r : Nat)) H'
theorem sc_drawn : FnScope ["self", "part", "stop", "found", "inner"] ["self", "part"] (defScope sDrawn) := ⟨rfl, rfl, rfl, by decide +kernel, rfl, by decide +kernel, by decide +kernel⟩
theorem boot_isi : bootBuiltins "isinstance" = some (.builtin "isinstance") := by decide +kernel
theorem boot_int' : bootBuiltins "int" = some (.type "int") := by decide +kernel
theorem boot_bool' : bootBuiltins "bool" = some (.type "bool") := by decide +kernel
theorem TxtP.cFx (T : TxtP K mg cl) : ∃ u, mg "Fixed" = some u ∧ RelV (.ref (cl .fx)) u := let ⟨_, _, _, h, _⟩ := T.mkFx.ex; ⟨_, h, rfl⟩
theorem TxtP.cCt (T : TxtP K mg cl) : ∃ u, mg "Contact" = some u ∧ RelV (.ref (cl .ct)) u := let ⟨_, _, _, h, _⟩ := T.mkCt.ex; ⟨_, h, rfl⟩
theorem TxtP.cNt (T : TxtP K mg cl) : ∃ u, mg "Turned" = some u ∧ RelV (.ref (cl .nt)) u := let ⟨_, _, _, h, _⟩ := T.mkNt.ex; ⟨_, h, rfl⟩
theorem TxtP.cSe (T : TxtP K mg cl) : ∃ u, mg "Series" = some u ∧ RelV (.ref (cl .se)) u := let ⟨_, _, _, h, _⟩ := T.mkSe.ex; ⟨_, h, rfl⟩
theorem TxtP.ty (T : TxtP K mg cl) {H : Hp} {a dx : Addr} {k : Kd} {fs : List (Str × V)} (h : H a = some (.ins (cl k) dx fs)) : TyX K H (.ref a) (.ref (cl k)) :=
  .base (.ins h (T.cls k) (T.own k).ha (T.own k).hn (T.own k).htk (T.own k).hm)
theorem T6 {m d : Nat} (hm : m ≤ 6) (h : d ≤ m) : T d ≤ 7 := by
  have := T_mono (show d ≤ 6 by omega)
  have e : T 6 = 7 := by decide
  omega
theorem U6 {m d : Nat} (hm : m ≤ 6) (h : d ≤ m) : U d ≤ 63 := by
  unfold U
  have := Nat.pow_le_pow_right (n := 2) (by decide) (show d ≤ 6 by omega)
  omega
theorem drawn_step (TP : TxtP K mg cl) (TS : TxtS K mg cS) {k d : Nat} (hk : 9 ≤ k) (ih : Met P w K mg base k cS "drawn" (spDrawn cl cS nm d)) : Met P w K mg base (k + 1) cS "drawn" (spDrawn cl cS nm (d + 1)) := by
  refine TS.drawn.ok TS.cls sc_drawn (fun vs H Q E h => ?_) fun f cdv _ outer s H vs Q E hr h => ?_
  · obtain ⟨A, ns, v, t, rfl, _⟩ := h; rfl
  obtain ⟨A, ns, v, t, rfl, S, G, hp, hd, wf, hn, cf, q⟩ := h
  obtain ⟨dx, ob⟩ := S.ob
  have nd := sc_drawn.nd
  refine ⟨_, pss_cons (ps_if (pt_val (pe_callB call_isi (by rfl) TP.isi boot_isi (pa_cons (pv 1) (pa_cons (pe_gc TP.cFx) pa_nil)))) (pss_one (ps_ret (pe_callTy call_int1 (by rfl) TP.int boot_int' (pa_cons (pe_fld (pv 1) rfl) pa_nil)))) pss_nil)
    (pss_cons (ps_if (pt_val (pe_callB call_isi (by rfl) TP.isi boot_isi (pa_cons (pv 1) (pa_cons (pe_gc TP.cCt) pa_nil)))) (pss_one (ps_ret (qm (ok_made (nm := nm) TP TS) hr (by omega) (pv 0) (pa_cons (pe_fzT PySem.F.slot_tuple_index PySem.F.type_tuple_index mt_tup_index (pe_fld (pv 0) rfl) (pa_cons (pe_fld (pv 1) rfl) pa_nil)) (pa_cons pe_int (pa_cons pe_int pa_nil)))))) pss_nil)
    (pss_cons (ps_if (pt_val (pe_callB call_isi (by rfl) TP.isi boot_isi (pa_cons (pv 1) (pa_cons (pe_gc TP.cNt) pa_nil)))) (pss_one (ps_ret (qm (ok_opp (nm := nm) TP TS 6) hr (by omega) (pv 0) (pa_cons (qm ih hr (Nat.le_refl _) (pv 0) (pa_cons (pe_fld (pv 1) rfl) pa_nil)) (pa_cons pe_dnewK pa_nil))))) pss_nil)
    (pss_cons (ps_set (i := 2) nd rfl (Or.inl rfl) (pe_callTy call_int1 (by rfl) TP.int boot_int' (pa_cons (pe_not (pe_callB call_isi (by rfl) TP.isi boot_isi (pa_cons (pv 1) (pa_cons (pe_gc TP.cSe) pa_nil)))) pa_nil)))
    (pss_cons (ps_set (i := 3) nd rfl (Or.inl rfl) (pe_op op_sub pe_int (pv 2)))
    (pss_cons (ps_for PassesOwn.never rfl (pi_tup (pe_fld (pv 1) rfl)) (pg_name (i := 4) nd rfl (Or.inl rfl))
      (pss_one (ps_set (i := 3) nd rfl (Or.inl rfl) (pe_exs fun st : Fin 2 => qm (ok_joined (nm := nm) TP TS (st := st.val) (Nat.le_of_lt_succ st.isLt) 6) hr hk (pv 0) (pa_cons (pv 3) (pa_cons (qm ih hr (Nat.le_refl _) (pv 0) (pa_cons (pv 4) pa_nil)) (pa_cons (pv 2) (pa_cons pe_dnewT pa_nil))))))))
    (pss_one (ps_ret (pv 3)))))))), ?_⟩
  obtain ⟨a, dy, fs, rfl, ha, nof⟩ := hp.ins
  have ty := TP.ty ha
  refine ⟨_, rfl, _, _, _, _, _, rfl, .own _, ty, TP.isFx t.kd, _, rfl, ?_⟩
  cases t with
  | fx b =>
    obtain ⟨a', dz, e, ha'⟩ := hp
    cases e
    refine ⟨_, rfl, a, _, dz, _, _, rfl, ha', TP.cls .fx, TP.nV, lk1 _ _ _, .inr ⟨b, rfl, ?_⟩⟩
    have := q H ns (if b then 1 else 0) (.refl S G) (by cases b <;> simp) (fun x => by cases b; exact congrFun (den_0 ns) x; exact congrFun (den_1 ns) x) (Nat.le_add_right _ _)
    cases b <;> exact this
  | ct i =>
    obtain ⟨a', dz, x, e, ha', hx⟩ := hp
    cases e
    refine ⟨_, rfl, _, _, _, _, _, rfl, .own _, ty, TP.isCt _, _, rfl, ?_⟩
    obtain ⟨on, ond, hon⟩ := S.nms
    refine ⟨_, rfl, A.s, dx, _, rfl, ob, ng (by decide +kernel), ?_⟩
    refine ⟨_, rfl, A.s, _, dx, _, _, rfl, ob, TS.cls, TS.nM, lkM A, ⟨A.n, on, _, rfl, hon, ond⟩, _, rfl, a, _, dz, _, _, rfl, ha', TP.cls .ct, TP.nN, lk1 _ _ _, ?_⟩
    refine ⟨A.n, nm, x, i, rfl, rfl, S.sq, hx, fun m hm z => ?_, ?_⟩
    · obtain ⟨g1, e1⟩ := List.getElem?_eq_some_iff.mp hx
      obtain ⟨g2, e2⟩ := List.getElem?_eq_some_iff.mp z
      have := (List.getElem_inj hn.nd).mp (e1.trans e2.symm)
      omega
    have wf' : i < nm.length := wf
    have cf' : cnt nm.length ns + 7 * 1 ≤ 1743 := cf
    refine ⟨A, ns, i, 0, 1, rfl, S, G, wf', by omega, by omega, by rw [plc_lo (by omega)]; exact wf', by rw [plc_lo (by omega)]; exact wf', by omega, fun H' ns' r st lr f1 _ c => ?_⟩
    refine q H' ns' r st lr (fun x => ?_) (by show _ ≤ cnt nm.length ns + 7 * 1; split at c <;> omega)
    rw [f1 x, den_0, den_1]
    show (if x i = true then true else false) = x i
    cases x i <;> rfl
  | nt t =>
    obtain ⟨a', dz, v, e, ha', hv⟩ := hp
    cases e
    refine ⟨_, rfl, _, _, _, _, _, rfl, .own _, ty, TP.isCt _, _, rfl, ?_⟩
    refine ⟨_, rfl, _, _, _, _, _, rfl, .own _, ty, TP.isNt _, _, rfl, ?_⟩
    have hd' : 1 + t.depth ≤ d + 1 := hd
    have cf' : cnt nm.length ns + 7 * (t.ops + 1) ≤ 1743 := cf
    refine ⟨_, rfl, A.s, dx, _, rfl, ob, ng (by decide +kernel), _, rfl, A.s, dx, _, rfl, ob, ng (by decide +kernel), _, rfl, a, _, dz, _, _, rfl, ha', TP.cls .nt, TP.nP, lk1 _ _ _, ?_⟩
    refine ⟨A, ns, v, t, rfl, S, G, hv, by omega, wf, hn, by omega, fun H1 ns1 r1 st1 lr1 d1 c1 => ?_⟩
    intro kd hkd
    have s2 := same_new hkd (.dK [])
    have few := hn.few
    have u6 := U6 few (Nat.le_refl _)
    have t7 : T 6 = 7 := by decide
    have u63 : U 6 = 63 := by decide
    refine ⟨A, ns1, r1, kd, [], rfl, st1.sh.same s2, st1.good, lr1, by omega, upd_same, (fun e he => by cases he), by rw [u63]; simp, by rw [t7]; omega, fun H3 ns3 kvs3 r3 st3 _ _ _ c3 lr3 d3 _ => ?_⟩
    rw [t7] at c3
    have st : Stp cS [] H H3 A nm ns ns3 := st1.trans (((Stp.of_same st1.sh st1.good s2).trans st3).drop hkd)
    refine q H3 ns3 r3 st lr3 (fun x => ?_) (by show _ ≤ cnt nm.length ns + 7 * (t.ops + 1); omega)
    rw [d3 x, d1 x]; rfl
  | gr b ts =>
    obtain ⟨a', dz, z, xs, e, ha', hz, hx⟩ := hp
    cases e
    have nP : NoAttr K (cl (Tl.gr b ts).kd) "parts" := nS_of TP (by cases b; exact .inr rfl; exact .inl rfl)
    have cf' : cnt nm.length ns + 7 * opss ts ≤ 1743 := cf
    have hd' : 1 + depths ts ≤ d + 1 := hd
    obtain ⟨st, est⟩ : ∃ st, st = if b = true then 0 else 1 := ⟨_, rfl⟩
    have st1 : st ≤ 1 := by rw [est]; split <;> omega
    rw [show decide ((Tl.gr b ts).kd = Kd.fx) = false by cases b <;> rfl]
    refine ⟨_, rfl, _, _, _, _, _, rfl, .own _, ty, TP.isCt _, _, rfl, ?_⟩
    rw [show decide ((Tl.gr b ts).kd = Kd.ct) = false by cases b <;> rfl]
    refine ⟨_, rfl, _, _, _, _, _, rfl, .own _, ty, TP.isNt _, _, rfl, ?_⟩
    rw [show decide ((Tl.gr b ts).kd = Kd.nt) = false by cases b <;> rfl]
    refine ⟨_, rfl, _, _, _, _, _, rfl, .own _, ty, TP.isSe _, _, rfl, .inr ⟨_, rfl, ?_⟩⟩
    rw [show (if (!decide ((Tl.gr b ts).kd = Kd.se)) = true then (1 : Int) else 0) = ((st : Nat) : Int) by rw [est]; cases b <;> rfl]
    refine ⟨_, rfl, _, _, rfl, rfl, ?_⟩
    rw [show (fun i j : Int => V.int (i - j)) 1 ((st : Nat) : Int) = V.int ((1 - st : Nat) : Int) from congrArg V.int (by omega)]
    refine ⟨_, rfl, a, _, dz, _, _, rfl, ha', TP.cls _, nP, lk1 _ _ _, z, rfl, ⟨xs, SqT.of hz⟩, ?_⟩
    have few := hn.few
    have t7 : T 6 = 7 := by decide
    have u63 : U 6 = 63 := by decide
    have hlen := hx.len
    refine for_tup (K := K) (a := z) (xs := xs) (fun i σ H' => ∃ ns' r o, Stp cS [] H H' A nm ns ns' ∧ σ = [some (.ref A.s), some (.ref a), some (.int (st : Nat)), some (.int (r : Nat)), o] ∧ r < ns'.length + 2 ∧
        (∀ x, den ns' r x = if b = true then evAll x (ts.take i) else evAny x (ts.take i)) ∧ cnt nm.length ns' ≤ cnt nm.length ns + 7 * opss (ts.take i))
      ⟨ns, 1 - st, none, .refl S G, rfl, by omega, fun x => ?_, Nat.le_add_right _ _⟩ (fun i σ H' _ ⟨ns', r, o, st, _⟩ => SqT.of (st.ext.tup hz)) ?_ ?_
    · cases b with
      | true => rw [est]; show den ns 1 x = true; rw [den_1]; rfl
      | false => rw [est]; show den ns 0 x = false; rw [den_0]; rfl
    · rintro i x σ H1 ex ⟨ns1, r1, o, sp1, rfl, lr1, d1, c1⟩
      obtain ⟨u, eu, hu⟩ := hx.get ex
      have mem := List.mem_of_getElem? eu
      have e1 := depths_mem mem
      have e5 : opss (ts.take (i + 1)) = opss (ts.take i) + (u.ops + 1) := by rw [take_step eu, opss_app]; rfl
      have e6 : opss (ts.take (i + 1)) ≤ opss ts := by
        have := opss_app (ts.take (i + 1)) (ts.drop (i + 1))
        rw [List.take_append_drop] at this
        omega
      obtain ⟨dx1, ob1⟩ := sp1.sh.ob
      refine ⟨⟨st, by omega⟩, _, rfl, A.s, dx1, _, rfl, ob1, ng (by decide +kernel), _, rfl, _, rfl, A.s, dx1, _, rfl, ob1, ng (by decide +kernel), _, rfl, ?_⟩
      refine ⟨A, ns1, x, u, rfl, sp1.sh, sp1.good, hu.ext sp1.ext, by omega, wfs_mem wf.2 mem, hn, by omega, fun H2 ns2 r2 sp2 lr2 d2 c2 => ?_⟩
      refine ⟨_, rfl, fun kd hkd => ?_⟩
      have s3 := same_new hkd (.dT [])
      have l2 := sp2.len
      refine ⟨A, ns2, r1, r2, kd, [], rfl, sp2.sh.same s3, sp2.good, by omega, lr2, by omega, by omega, (ne_of_none sp2.sh.dict hkd).symm, upd_same, (fun e he => by cases he), by rw [u63]; simp, by rw [t7]; omega, fun H4 ns4 kvs4 r4 sp4 _ _ _ c4 lr4 d4 _ => ?_⟩
      rw [t7] at c4
      refine ⟨ns4, r4, _, (sp1.trans sp2).trans (((Stp.of_same sp2.sh sp2.good s3).trans sp4).drop hkd), rfl, lr4, fun y => ?_, by omega⟩
      rw [d4 y, sp2.den lr1, d1 y, d2 y, take_step eu, evAll_snoc, evAny_snoc]
      show opB st (if b = true then evAll y (ts.take i) else evAny y (ts.take i)) (u.ev y) = (if b = true then (evAll y (ts.take i) && u.ev y) else (evAny y (ts.take i) || u.ev y))
      rw [est]
      cases b <;> rfl
    · rintro σ H1 ⟨ns1, r1, o, sp1, rfl, lr1, d1, c1⟩
      rw [hlen, List.take_length] at c1
      refine ⟨_, rfl, q H1 ns1 r1 sp1 lr1 (fun x => ?_) c1⟩
      rw [d1 x, hlen, List.take_length]; rfl
theorem ok_drawn (TP : TxtP K mg cl) (TS : TxtS K mg cS) : ∀ d, Met P w K mg base (d + 9) cS "drawn" (spDrawn cl cS nm d)
  | 0 => (MetAt.never TS.cls TS.drawn sc_drawn fun vs H Q E ⟨A, ns, v, t, _, _, _, _, hd, _⟩ => by have := t.depth_pos; omega).mono (by decide)
  | d + 1 => drawn_step TP TS (Nat.le_add_left 9 d) (ok_drawn TP TS d)
/-! ### need, node, of_two, both, either, turned, shown -/
def spNeed (cS : Addr) (nm : List Str) : Sp := fun vs H Q _ => ∃ A ns n, vs = [.ref A.s, .int (n : Nat)] ∧ Sh cS H A nm ns ∧ n < ns.length + 2 ∧ Q (.int (n : Nat)) H
theorem sc_need : FnScope ["self", "node"] ["self", "node"] (defScope sNeed) := ⟨rfl, rfl, rfl, by decide +kernel, rfl, by decide +kernel, by decide +kernel⟩
theorem ok_need (TP : TxtP K mg cl) (TS : TxtS K mg cS) : Met P w K mg base 1 cS "need" (spNeed cS nm) := by
  refine TS.need.ok TS.cls sc_need (fun vs H Q E h => ?_) fun f cdv _ outer s H vs Q E hr h => ?_
  · obtain ⟨A, ns, n, rfl, _⟩ := h; rfl
  obtain ⟨A, ns, n, rfl, S, hn, q⟩ := h
  obtain ⟨dx, ob⟩ := S.ob
  obtain ⟨rs, hl, ln, at_⟩ := S.nodes
  have ki : PySem.W.kitOne K (.type "int") (.type "int") = some true := kit_ty (by decide +kernel)
  have kb : PySem.W.kitOne K (.type "int") (.type "bool") = some false := kit_ty (by decide +kernel)
  refine ⟨_, pss_cons (ps_if (PW.pt (pw_or (pt_not (pt_val (pe_callB call_isi (by rfl) TP.isi boot_isi (pa_cons (pv 1) (pa_cons (pe_bltn (v := .ty "int") (by rfl) TP.int boot_int' rfl) pa_nil)))))
      (pw_or (pt_val (pe_callB call_isi (by rfl) TP.isi boot_isi (pa_cons (pv 1) (pa_cons (pe_bltn (v := .ty "bool") (by rfl) TP.bool boot_bool' rfl) pa_nil))))
      (pw_or1 (pt_not (pt_chain op_le op_lt pe_int (pv 1) (pe_op op_add (pe_callB call_len_seq (by rfl) TP.len PySem.boot_len (pa_cons (pe_fld (pv 0) rfl) pa_nil)) pe_int))))))) (pss_one ps_never) pss_nil)
    (pss_one (ps_ret (pv 1))), ?_⟩
  refine ⟨_, rfl, _, _, _, _, _, rfl, .ty _, .base (.int _), ki, _, rfl, ?_⟩
  refine ⟨_, rfl, _, _, _, _, _, rfl, .ty _, .base (.int _), kb, _, rfl, ?_⟩
  refine ⟨_, rfl, _, _, rfl, rfl, _, rfl, ?_⟩
  rw [if_pos (decide_eq_true (by omega : (0 : Int) ≤ ((n : Nat) : Int)))]
  refine ⟨_, rfl, A.s, _, dx, _, _, rfl, ob, TS.cls, TS.nN, lkN A, A.l, _, rfl, .inl (SqL.of hl), _, _, rfl, rfl, _, _, rfl, rfl, _, rfl, ?_⟩
  rw [decide_eq_true (by rw [List.length_map, ln]; omega : ((n : Nat) : Int) < (((rs.map V.ref).length : Nat) : Int) + 2)]
  exact ⟨_, rfl, q⟩
def spNode (cl : Kd → Addr) (cS : Addr) (nm : List Str) : Sp := fun vs H Q _ => ∃ A ns v t, vs = [.ref A.s, v] ∧ Sh cS H A nm ns ∧ Good nm.length ns ∧ PartAt cl nm H v t ∧ t.depth ≤ 20 ∧ t.size ≤ 60 ∧ t.wf nm.length ∧ Nms nm ∧ cnt nm.length ns + 7 * t.ops ≤ 1743 ∧
  ∀ H' ns' r, Stp cS [] H H' A nm ns ns' → r < ns'.length + 2 → (∀ x, den ns' r x = t.ev x) → cnt nm.length ns' ≤ cnt nm.length ns + 7 * t.ops → Q (.int (r : Nat)) H'
theorem sc_node : FnScope ["self", "part", "name", "many"] ["self", "part"] (defScope sNode) := ⟨rfl, rfl, rfl, by decide +kernel, rfl, by decide +kernel, by decide +kernel⟩
theorem in_names {nm : List Str} {x : Str} (h : x ∈ nm) : inV (.str x) (nm.map V.str) = true := by
  unfold inV
  rw [List.any_eq_true]
  exact ⟨.str x, List.mem_map.mpr ⟨x, h, rfl⟩, beq_self_eq_true x⟩
theorem ok_node (TP : TxtP K mg cl) (TS : TxtS K mg cS) : Met P w K mg base 30 cS "node" (spNode cl cS nm) := by
  refine TS.node.ok TS.cls sc_node (fun vs H Q E h => ?_) fun f cdv _ outer s H vs Q E hr h => ?_
  · obtain ⟨A, ns, v, t, rfl, _⟩ := h; rfl
  obtain ⟨A, ns, v, t, rfl, S, G, hp, hd, hs, wf, hn, cf, q⟩ := h
  have nd := sc_node.nd
  refine ⟨_, pss_cons (ps_for PassesOwn.never rfl (pi_tup (pe_exs fun kd => qm0 (ok_contacts (nm := nm) TP kd) hr (by decide) (pv 1))) (pg_name (i := 2) nd rfl (Or.inl rfl))
      (pss_one (ps_if (pt_cmpR op_notIn_seq (pv 2) (pe_fld (pv 0) rfl) rfl) (pss_one ps_never) pss_nil)))
    (pss_cons (ps_set (i := 3) nd rfl (Or.inl rfl) (pe_callB call_len_seq (by rfl) TP.len PySem.boot_len (pa_cons (pe_fld (pv 0) rfl) pa_nil)))
    (pss_one (ps_try_thru0 (pss_one (ps_ret (qm (ok_drawn (nm := nm) TP TS 20) hr (Nat.le_refl _) (pv 0) (pa_cons (pv 1) pa_nil))))))), ?_⟩
  obtain ⟨a, dy, fs, rfl, ha, nof⟩ := hp.ins
  refine ⟨t.kd, _, rfl, a, dy, fs, rfl, ha, nof _ nf_contacts, a, t, rfl, rfl, hd, hs, hp, fun H1 z xs s1 hz hin => ?_⟩
  have S1 := S.same s1
  obtain ⟨dx, ob⟩ := S1.ob
  obtain ⟨rs, hl, ln, at_⟩ := S1.nodes
  refine ⟨z, rfl, ⟨_, SqT.of hz⟩, for_tup (K := K) (a := z) (xs := xs.map V.str) (fun i σ H' => H' = H1 ∧ ∃ o, σ = [some (.ref A.s), some (.ref a), o, none]) ⟨rfl, _, rfl⟩ (fun i σ H' _ h => by rw [h.1]; exact SqT.of hz) ?_ ?_⟩
  · rintro i x σ H' ex ⟨rfl, o, rfl⟩
    obtain ⟨y, hy, rfl⟩ := List.mem_map.mp (List.mem_of_getElem? ex)
    refine ⟨_, rfl, _, rfl, A.s, _, dx, _, _, rfl, ob, TS.cls, TS.nM, lkM A, A.n, _, rfl, .inr S1.sq, rfl, flat_strs nm, _, rfl, ?_⟩
    rw [in_names (hin y hy)]
    exact ⟨rfl, _, rfl⟩
  · rintro σ H' ⟨rfl, o, rfl⟩
    refine ⟨_, rfl, A.s, _, dx, _, _, rfl, ob, TS.cls, TS.nN, lkN A, A.l, _, rfl, .inl (SqL.of hl), ?_⟩
    refine ⟨_, rfl, A.s, dx, _, rfl, ob, ng (by decide +kernel), _, rfl, A, ns, .ref a, t, rfl, S1, G, hp.ext (S := []) (.same s1), hd, wf, hn, cf, fun H2 ns2 r st lr dr c => ?_⟩
    exact q H2 ns2 r ((Stp.of_same S G s1).trans st) lr dr c
def spTwo (cS : Addr) (nm : List Str) (st : Nat) (more : List V) : Sp := fun vs H Q _ => ∃ A ns a b, vs = [.ref A.s, .int (a : Nat), .int (b : Nat)] ++ more ∧ Sh cS H A nm ns ∧ Good nm.length ns ∧ a < ns.length + 2 ∧ b < ns.length + 2 ∧ nm.length ≤ 6 ∧ cnt nm.length ns + 7 ≤ 1743 ∧
  ∀ H' ns' r, Stp cS [] H H' A nm ns ns' → r < ns'.length + 2 → (∀ x, den ns' r x = opB st (den ns a x) (den ns b x)) → cnt nm.length ns' ≤ cnt nm.length ns + 7 → Q (.int (r : Nat)) H'
theorem sc_two : FnScope ["self", "one", "other", "stop", "many"] ["self", "one", "other", "stop"] (defScope sTwo) := ⟨rfl, rfl, rfl, by decide +kernel, rfl, by decide +kernel, by decide +kernel⟩
theorem ok_two (TP : TxtP K mg cl) (TS : TxtS K mg cS) {st : Nat} (hs : st ≤ 1) : Met P w K mg base 10 cS "of_two" (spTwo cS nm st [.int (st : Nat)]) := by
  refine TS.two.ok TS.cls sc_two (fun vs H Q E h => ?_) fun f cdv _ outer s H vs Q E hr h => ?_
  · obtain ⟨A, ns, a, b, rfl, _⟩ := h; rfl
  obtain ⟨A, ns, a, b, rfl, S, G, la, lb, few, cf, q⟩ := h
  obtain ⟨dx, ob⟩ := S.ob
  obtain ⟨rs, hl, ln, at_⟩ := S.nodes
  have nd := sc_two.nd
  refine ⟨_, pss_cons (ps_expr (qm (ok_need (nm := nm) TP TS) hr (by decide) (pv 0) (pa_cons (pv 1) pa_nil)))
    (pss_cons (ps_expr (qm (ok_need (nm := nm) TP TS) hr (by decide) (pv 0) (pa_cons (pv 2) pa_nil)))
    (pss_cons (ps_set (i := 4) nd rfl (Or.inl rfl) (pe_callB call_len_seq (by rfl) TP.len PySem.boot_len (pa_cons (pe_fld (pv 0) rfl) pa_nil)))
    (pss_one (ps_try_thru0 (pss_one (ps_ret (qm (ok_joined (nm := nm) TP TS hs 6) hr (Nat.le_refl _) (pv 0) (pa_cons (pv 1) (pa_cons (pv 2) (pa_cons (pv 3) (pa_cons pe_dnewT pa_nil))))))))))), ?_⟩
  refine ⟨_, rfl, A.s, dx, _, rfl, ob, ng (by decide +kernel), _, rfl, A, ns, a, rfl, S, la, ?_⟩
  refine ⟨_, rfl, A.s, dx, _, rfl, ob, ng (by decide +kernel), _, rfl, A, ns, b, rfl, S, lb, ?_⟩
  refine ⟨_, rfl, A.s, _, dx, _, _, rfl, ob, TS.cls, TS.nN, lkN A, A.l, _, rfl, .inl (SqL.of hl), ?_⟩
  refine ⟨_, rfl, A.s, dx, _, rfl, ob, ng (by decide +kernel), _, rfl, _, rfl, _, rfl, fun kd hkd => ?_⟩
  have s3 := same_new hkd (.dT [])
  have t7 : T 6 = 7 := by decide
  have u63 : U 6 = 63 := by decide
  refine ⟨A, ns, a, b, kd, [], rfl, S.same s3, G, la, lb, by omega, by omega, (ne_of_none S.dict hkd).symm, upd_same, (fun e he => by cases he), by rw [u63]; simp, by rw [t7]; omega, fun H4 ns4 kvs4 r4 sp4 _ _ _ c4 lr4 d4 _ => ?_⟩
  rw [t7] at c4
  exact q H4 ns4 r4 (((Stp.of_same S G s3).trans sp4).drop hkd) lr4 d4 c4
theorem sc_both : FnScope ["self", "one", "other"] ["self", "one", "other"] (defScope sBoth) := ⟨rfl, rfl, rfl, by decide +kernel, rfl, by decide +kernel, by decide +kernel⟩
theorem sc_either : FnScope ["self", "one", "other"] ["self", "one", "other"] (defScope sEither) := ⟨rfl, rfl, rfl, by decide +kernel, rfl, by decide +kernel, by decide +kernel⟩
theorem ok_both (TP : TxtP K mg cl) (TS : TxtS K mg cS) : Met P w K mg base 11 cS "both" (spTwo cS nm 0 []) := by
  refine TS.both.ok TS.cls sc_both (fun vs H Q E h => ?_) fun f cdv _ outer s H vs Q E hr h => ?_
  · obtain ⟨A, ns, a, b, rfl, _⟩ := h; rfl
  obtain ⟨A, ns, a, b, rfl, S, more⟩ := h
  obtain ⟨dx, ob⟩ := S.ob
  refine ⟨_, pss_one (ps_ret (qm (ok_two (nm := nm) TP TS (st := 0) (by decide)) hr (Nat.le_refl _) (pv 0) (pa_cons (pv 1) (pa_cons (pv 2) (pa_cons pe_int pa_nil))))), ?_⟩
  exact ⟨_, rfl, A.s, dx, _, rfl, ob, ng (by decide +kernel), _, rfl, _, rfl, A, ns, a, b, rfl, S, more⟩
theorem ok_either (TP : TxtP K mg cl) (TS : TxtS K mg cS) : Met P w K mg base 11 cS "either" (spTwo cS nm 1 []) := by
  refine TS.either.ok TS.cls sc_either (fun vs H Q E h => ?_) fun f cdv _ outer s H vs Q E hr h => ?_
  · obtain ⟨A, ns, a, b, rfl, _⟩ := h; rfl
  obtain ⟨A, ns, a, b, rfl, S, more⟩ := h
  obtain ⟨dx, ob⟩ := S.ob
  refine ⟨_, pss_one (ps_ret (qm (ok_two (nm := nm) TP TS (st := 1) (by decide)) hr (Nat.le_refl _) (pv 0) (pa_cons (pv 1) (pa_cons (pv 2) (pa_cons pe_int pa_nil))))), ?_⟩
  exact ⟨_, rfl, A.s, dx, _, rfl, ob, ng (by decide +kernel), _, rfl, _, rfl, A, ns, a, b, rfl, S, more⟩
def spTurned (cS : Addr) (nm : List Str) : Sp := fun vs H Q _ => ∃ A ns a, vs = [.ref A.s, .int (a : Nat)] ∧ Sh cS H A nm ns ∧ Good nm.length ns ∧ a < ns.length + 2 ∧ nm.length ≤ 6 ∧ cnt nm.length ns + 7 ≤ 1743 ∧
  ∀ H' ns' r, Stp cS [] H H' A nm ns ns' → r < ns'.length + 2 → (∀ x, den ns' r x = !den ns a x) → cnt nm.length ns' ≤ cnt nm.length ns + 7 → Q (.int (r : Nat)) H'
theorem sc_turned : FnScope ["self", "node", "many"] ["self", "node"] (defScope sTurned) := ⟨rfl, rfl, rfl, by decide +kernel, rfl, by decide +kernel, by decide +kernel⟩
theorem ok_turned (TP : TxtP K mg cl) (TS : TxtS K mg cS) : Met P w K mg base 8 cS "turned" (spTurned cS nm) := by
  refine TS.turned.ok TS.cls sc_turned (fun vs H Q E h => ?_) fun f cdv _ outer s H vs Q E hr h => ?_
  · obtain ⟨A, ns, a, rfl, _⟩ := h; rfl
  obtain ⟨A, ns, a, rfl, S, G, la, few, cf, q⟩ := h
  obtain ⟨dx, ob⟩ := S.ob
  obtain ⟨rs, hl, ln, at_⟩ := S.nodes
  have nd := sc_turned.nd
  refine ⟨_, pss_cons (ps_expr (qm (ok_need (nm := nm) TP TS) hr (by decide) (pv 0) (pa_cons (pv 1) pa_nil)))
    (pss_cons (ps_set (i := 2) nd rfl (Or.inl rfl) (pe_callB call_len_seq (by rfl) TP.len PySem.boot_len (pa_cons (pe_fld (pv 0) rfl) pa_nil)))
    (pss_one (ps_try_thru0 (pss_one (ps_ret (qm (ok_opp (nm := nm) TP TS 6) hr (Nat.le_refl _) (pv 0) (pa_cons (pv 1) (pa_cons pe_dnewK pa_nil)))))))), ?_⟩
  refine ⟨_, rfl, A.s, dx, _, rfl, ob, ng (by decide +kernel), _, rfl, A, ns, a, rfl, S, la, ?_⟩
  refine ⟨_, rfl, A.s, _, dx, _, _, rfl, ob, TS.cls, TS.nN, lkN A, A.l, _, rfl, .inl (SqL.of hl), ?_⟩
  refine ⟨_, rfl, A.s, dx, _, rfl, ob, ng (by decide +kernel), _, rfl, fun kd hkd => ?_⟩
  have s3 := same_new hkd (.dK [])
  have t7 : T 6 = 7 := by decide
  have u63 : U 6 = 63 := by decide
  refine ⟨A, ns, a, kd, [], rfl, S.same s3, G, la, by omega, upd_same, (fun e he => by cases he), by rw [u63]; simp, by rw [t7]; omega, fun H4 ns4 kvs4 r4 sp4 _ _ _ c4 lr4 d4 _ => ?_⟩
  rw [t7] at c4
  exact q H4 ns4 r4 (((Stp.of_same S G s3).trans sp4).drop hkd) lr4 d4 c4
def spShown (cS : Addr) (nm : List Str) : Sp := fun vs H Q _ => ∃ A ns i k, vs = [.ref A.s, .int ((i + 2 : Nat) : Int)] ∧ Sh cS H A nm ns ∧ ns[i]? = some k ∧ ∀ r, H r = some (.tup (tupN k)) → Q (.ref r) H
theorem sc_shown : FnScope ["self", "node"] ["self", "node"] (defScope sShown) := ⟨rfl, rfl, rfl, by decide +kernel, rfl, by decide +kernel, by decide +kernel⟩
theorem ok_shown (TP : TxtP K mg cl) (TS : TxtS K mg cS) : Met P w K mg base 2 cS "shown" (spShown cS nm) := by
  refine TS.shown.ok TS.cls sc_shown (fun vs H Q E h => ?_) fun f cdv _ outer s H vs Q E hr h => ?_
  · obtain ⟨A, ns, i, k, rfl, _⟩ := h; rfl
  obtain ⟨A, ns, i, k, rfl, S, hk, q⟩ := h
  obtain ⟨dx, ob⟩ := S.ob
  obtain ⟨rs, hl, ln, at_⟩ := S.nodes
  have lt := (List.getElem?_eq_some_iff.mp hk).1
  obtain ⟨r, hr2⟩ : ∃ r, rs[i]? = some r := ⟨_, List.getElem?_eq_getElem (by omega)⟩
  refine ⟨_, pss_cons (ps_if (pt_cmpR op_lt (qm (ok_need (nm := nm) TP TS) hr (Nat.le_refl _) (pv 0) (pa_cons (pv 1) pa_nil)) pe_int (nomark _)) (pss_one (ps_ret (pe_tup pa_nil))) pss_nil)
    (pss_one (ps_ret (pe_ix ix_list (pe_fld (pv 0) rfl) (pe_op op_sub (pv 1) pe_int) (fun _ _ => rfl)))), ?_⟩
  refine ⟨_, rfl, A.s, dx, _, rfl, ob, ng (by decide +kernel), _, rfl, A, ns, i + 2, rfl, S, by omega, _, _, rfl, rfl, _, rfl, ?_⟩
  rw [decide_eq_false (by omega : ¬ ((i + 2 : Nat) : Int) < 2)]
  exact ⟨_, rfl, A.s, _, dx, _, _, rfl, ob, TS.cls, TS.nN, lkN A, _, rfl, _, _, rfl, rfl, A.l, _, _, .ref r, rfl, rfl, SqL.of hl, atI_of (j := i) (by omega) (by rw [List.getElem?_map, hr2]; rfl), q r (at_ _ _ _ hr2 hk)⟩
end
end Rw

set_option Elab.async false
set_option linter.all false
set_option maxRecDepth 100000
set_option maxHeartbeats 4000000
/-! The law's helpers: cells, words, names. -/
namespace Rw
open PySem PySem.Spec PyProof.Rows L2
/-- the law's own defs -/
structure TxtL (K : PySem.W.Frag) (mg : Str → Option Value) : Prop where
  cell : DefAt K mg "_law_cell_at" sCellAt ["_law_script", "_law_k"]
  mixed : DefAt K mg "_law_mixed" sMixed ["_law_cell", "_law_k"]
  word : DefAt K mg "_law_word" sWord ["_law_cell", "_law_size"]
  names : DefAt K mg "_law_names" sNames ["_law_cell", "_law_many"]
  grown : DefAt K mg "_law_grown" sGrown ["_law_pile", "_law_cell", "_law_names_here"]
  toldBy : DefAt K mg "_law_told_by" sToldBy ["_law_script", "_law_first", "_law_many", "_law_names_here"]
  holds : DefAt K mg "_law_holds" sHolds ["_law_told", "_law_row_here"]
  row : DefAt K mg "_law_row" sRow ["_law_names_here", "_law_number"]
  down : DefAt K mg "_law_down" sDown ["_law_sheet", "_law_node", "_law_row_here"]
  whole : DefAt K mg "_law_whole" sWhole ["_law_found"]
  law : DefAt K mg "law" sLaw ["_law_script"]
section
variable {P : Program} {w : World} {K : PySem.W.Frag} {mg : Str → Option Value} {base : Heap} {cl : Kd → Addr} {nm : List Str} {cS : Addr}
def spCell (K : PySem.W.Frag) : Sp := fun vs H Q _ => ∃ (a : Addr) (zs : List Int) (k : Int), vs = [.ref a, .int k] ∧ SqL K H a (zs.map V.int) ∧ zs.length ≤ 63 ∧ 0 ≤ k ∧ ∀ z, Q (.int z) H
theorem sc_cell : FnScope ["_law_script", "_law_k"] ["_law_script", "_law_k"] (defScope sCellAt) := ⟨rfl, rfl, rfl, by decide +kernel, rfl, by decide +kernel, by decide +kernel⟩
theorem ok_cell (TP : TxtP K mg cl) (TL : TxtL K mg) : Cal P w K mg base 1 "_law_cell_at" (spCell K) := by
  refine TL.cell.ok sc_cell (fun vs H Q E h => ?_) fun f cdv _ outer s H vs Q E hr h => ?_
  · obtain ⟨a, zs, k, rfl, _⟩ := h; rfl
  obtain ⟨a, zs, k, rfl, hq, h63, hk, q⟩ := h
  refine ⟨_, pss_cons (ps_if (pt_cmpR op_eq (pe_callB call_len_seq (by rfl) TP.len PySem.boot_len (pa_cons (pv 0) pa_nil)) pe_int (nomark _)) (pss_one (ps_ret (pv 1))) pss_nil)
    (pss_one (ps_ret (pe_op op_add (pe_ix ix_list (pv 0) (pe_op op_mod (pv 1) (pe_callB call_len_seq (by rfl) TP.len PySem.boot_len (pa_cons (pv 0) pa_nil))) (fun _ _ => rfl))
      (pe_op op_mul pe_int (pe_op op_fdiv (pv 1) (pe_callB call_len_seq (by rfl) TP.len PySem.boot_len (pa_cons (pv 0) pa_nil))))))), ?_⟩
  refine ⟨_, rfl, a, _, rfl, .inl hq, rfl, _, rfl, ?_⟩
  rw [List.length_map]
  by_cases h0 : zs.length = 0
  · rw [show decide (V.int ((zs.length : Nat) : Int) = V.int 0) = true from decide_eq_true (by rw [h0]; rfl)]
    exact ⟨_, rfl, q k⟩
  · rw [show decide (V.int ((zs.length : Nat) : Int) = V.int 0) = false from decide_eq_false fun z => by injection z with z; omega]
    have pos : (0 : Int) < ((zs.length : Nat) : Int) := by omega
    have m0 := Int.emod_nonneg k (by omega : ((zs.length : Nat) : Int) ≠ 0)
    have m1 := Int.emod_lt_of_pos k pos
    obtain ⟨z, hz⟩ : ∃ z, zs[(k % ((zs.length : Nat) : Int)).toNat]? = some z := ⟨_, List.getElem?_eq_getElem (by omega)⟩
    refine ⟨_, rfl, _, rfl, _, rfl, a, _, rfl, .inl hq, _, _, rfl, rfl, (by rw [List.length_map]; exact pos), a, _, _, .int z, rfl, rfl, hq, atI_of (j := (k % ((zs.length : Nat) : Int)).toNat) (by rw [List.length_map]; omega) (by rw [List.getElem?_map, hz]; rfl), ?_⟩
    refine ⟨_, rfl, _, rfl, a, _, rfl, .inl hq, _, _, rfl, rfl, ⟨by rw [List.length_map]; exact pos, by rw [List.length_map]; omega⟩, _, _, rfl, rfl, .inl ⟨by decide, by decide⟩, _, _, rfl, rfl, q _⟩
def spMixed : Sp := fun vs H Q _ => ∃ c k : Int, vs = [.int c, .int k] ∧ ∀ z, 0 ≤ z → Q (.int z) H
theorem sc_mixed : FnScope ["_law_cell", "_law_k", "_law_mix"] ["_law_cell", "_law_k"] (defScope sMixed) := ⟨rfl, rfl, rfl, by decide +kernel, rfl, by decide +kernel, by decide +kernel⟩
theorem ok_mixed (TL : TxtL K mg) : Cal P w K mg base 1 "_law_mixed" spMixed := by
  refine TL.mixed.ok sc_mixed (fun vs H Q E h => ?_) fun f cdv _ outer s H vs Q E hr h => ?_
  · obtain ⟨c, k, rfl, _⟩ := h; rfl
  obtain ⟨c, k, rfl, q⟩ := h
  refine ⟨_, pss_cons (ps_set (i := 2) sc_mixed.nd rfl (Or.inl rfl) (pe_op op_mod (pe_op op_mul (pe_op op_add (pe_op op_add (pv 0) (pe_op op_mul pe_int (pv 1))) pe_int) pe_int) pe_int))
    (pss_one (ps_ret (pe_op op_mod (pe_op op_add (pe_op op_mul (pv 2) (pv 2)) (pe_op op_mul pe_int (pv 2))) pe_int))), ?_⟩
  refine ⟨_, rfl, _, rfl, _, _, rfl, rfl, .inl ⟨by decide, by decide⟩, _, _, rfl, rfl, _, _, rfl, rfl, _, _, rfl, rfl, .inr ⟨by decide, by decide⟩, _, _, rfl, rfl, (by show (0 : Int) < 2147483647; decide), ?_⟩
  have m0 := Int.emod_nonneg ((c + 7919 * k + 11) * 48271) (by decide : (2147483647 : Int) ≠ 0)
  have m1 := Int.emod_lt_of_pos ((c + 7919 * k + 11) * 48271) (by decide : (0 : Int) < 2147483647)
  have mb : -(2 ^ 64) < (c + 7919 * k + 11) * 48271 % 2147483647 ∧ (c + 7919 * k + 11) * 48271 % 2147483647 < 2 ^ 64 := ⟨by omega, by omega⟩
  refine ⟨_, rfl, _, rfl, _, _, rfl, rfl, .inl mb, _, rfl, _, _, rfl, rfl, .inl ⟨by decide, by decide⟩, _, _, rfl, rfl, _, _, rfl, rfl, (by show (0 : Int) < 2147483399; decide), ?_⟩
  exact q _ (Int.emod_nonneg _ (by decide))
/-! ### words -/
theorem abc : ("abcdefghijklmnopqrstuvwxyz" : Str).cps.toList = (List.range 26).map (· + 97) := by decide +kernel
theorem abc_at {i : Int} (h0 : 0 ≤ i) (h1 : i < 26) : atI ("abcdefghijklmnopqrstuvwxyz" : Str).cps.toList i = some (i.toNat + 97) := by
  have e : i = ((i.toNat : Nat) : Int) := by omega
  have g : ("abcdefghijklmnopqrstuvwxyz" : Str).cps.toList[i.toNat]? = some (i.toNat + 97) := by
    rw [abc, List.getElem?_map, List.getElem?_range (by omega)]; rfl
  have := atI_nat g
  rw [← e] at this
  exact this
theorem app_cps (a b : Str) : (a ++ b).cps.toList = a.cps.toList ++ b.cps.toList := by rw [PySem.Str.cps_append, Array.toList_append]
theorem len_cps (a : Str) : a.length = a.cps.toList.length := rfl
theorem len_app (a b : Str) : (a ++ b).length = a.length + b.length := by rw [len_cps, app_cps, List.length_append]; rfl
theorem len_one (c : Nat) : (⟨#[c]⟩ : Str).length = 1 := rfl
def spWord : Sp := fun vs H Q _ => ∃ (c : Int) (n : Nat), vs = [.int c, .int (n : Nat)] ∧ n ≤ 6 ∧ ∀ x : Str, x.cps.toList.length = n → (∀ z ∈ x.cps.toList, 97 ≤ z ∧ z ≤ 122) → Q (.str x) H
theorem sc_word : FnScope ["_law_cell", "_law_size", "_law_letters", "_law_word_here", "_law_k"] ["_law_cell", "_law_size"] (defScope sWord) := ⟨rfl, rfl, rfl, by decide +kernel, rfl, by decide +kernel, by decide +kernel⟩
theorem ok_word (TP : TxtP K mg cl) (TL : TxtL K mg) : Cal P w K mg base 2 "_law_word" spWord := by
  refine TL.word.ok sc_word (fun vs H Q E h => ?_) fun f cdv _ outer s H vs Q E hr h => ?_
  · obtain ⟨c, n, rfl, _⟩ := h; rfl
  obtain ⟨c, n, rfl, hn, q⟩ := h
  have nd := sc_word.nd
  refine ⟨_, pss_cons (ps_set (i := 2) nd rfl (Or.inl rfl) pe_str) (pss_cons (ps_set (i := 3) nd rfl (Or.inl rfl) pe_str)
    (pss_cons (ps_for PassesOwn.never rfl (pi_range1 (by rfl) TP.range (pa_cons (pv 1) pa_nil)) (pg_name (i := 4) nd rfl (Or.inl rfl))
      (pss_one (ps_set (i := 3) nd rfl (Or.inl rfl) (pe_op op_add_str (pv 3) (pe_ix ix_str (pv 2) (pe_op op_mod (pe_op op_fdiv (qc (ok_mixed TL) hr (Nat.le_refl _) (pa_cons (pv 0) (pa_cons (pv 4) pa_nil))) pe_int) pe_int) (fun _ _ => rfl))))))
    (pss_one (ps_ret (pv 3))))), ?_⟩
  refine ⟨_, rfl, ((n : Nat) : Int), rfl, by omega, by omega, for_range (lo := 0) (n := ((n : Nat) : Int).toNat) (fun i σ H' => H' = H ∧ ∃ (x : Str) (o : Option V), σ = [some (.int c), some (.int (n : Nat)), some (.str "abcdefghijklmnopqrstuvwxyz"), some (.str x), o] ∧ x.cps.toList.length = i ∧ ∀ z ∈ x.cps.toList, 97 ≤ z ∧ z ≤ 122)
    ⟨rfl, "", none, rfl, rfl, fun z hz => by cases hz⟩ ?_ ?_⟩
  · rintro i σ H' hi ⟨rfl, x, o, rfl, hl, hz⟩
    refine ⟨_, rfl, _, rfl, _, rfl, _, rfl, c, _, rfl, fun v hv => ?_⟩
    have r0 := Int.emod_nonneg (v / 31) (by decide : (26 : Int) ≠ 0)
    have r1 := Int.emod_lt_of_pos (v / 31) (by decide : (0 : Int) < 26)
    refine ⟨_, _, rfl, rfl, ⟨by decide, by decide⟩, _, _, rfl, rfl, (by show (0 : Int) < 26; decide), _, _, _, rfl, rfl, (by decide +kernel), abc_at r0 r1, ?_⟩
    refine ⟨_, _, rfl, rfl, Nat.le_of_lt (sz (by rw [len_cps, hl]; show i + 1 ≤ _; omega)), rfl, _, _, rfl, ?_, ?_⟩
    · rw [app_cps, List.length_append, hl]; rfl
    · intro z hm
      rw [app_cps] at hm
      rcases List.mem_append.mp hm with hm | hm
      · exact hz z hm
      · obtain rfl : z = (v / 31 % 26).toNat + 97 := List.mem_singleton.mp hm
        omega
  · rintro σ H' ⟨rfl, x, o, rfl, hl, hz⟩
    exact ⟨_, rfl, q x (by rw [hl]; omega) hz⟩
/-! ### names -/
def nameL (bs : List Nat) (at_ c : Nat) : List Nat := bs.take at_ ++ [c] ++ bs.drop at_ ++ [113]
theorem kept_q : ∀ y ∈ keptL, y.cps.toList.getLast? ≠ some 113 := by decide +kernel
theorem isNm_of {x : Str} {bs : List Nat} {at_ c : Nat} (e : x.cps.toList = nameL bs at_ c) (hb : ∀ z ∈ bs, 97 ≤ z ∧ z ≤ 122) (hl : bs.length ≤ 6) (hc : 97 ≤ c ∧ c ≤ 122) : IsNm x := by
  have ll : (nameL bs at_ c).length = bs.length + 2 := by
    have := congrArg List.length (List.take_append_drop at_ bs)
    rw [List.length_append] at this
    unfold nameL
    simp only [List.length_append, List.length_singleton]
    omega
  refine ⟨fun z hz => ?_, fun z => ?_, ?_, fun z => ?_⟩
  · rw [e] at hz
    unfold nameL at hz
    simp only [List.mem_append, List.mem_singleton] at hz
    rcases hz with ((h | h) | h) | h
    · exact hb z (List.mem_of_mem_take h)
    · rw [h]; exact hc
    · exact hb z (List.mem_of_mem_drop h)
    · rw [h]; decide
  · rw [z] at e
    have := congrArg List.length e
    rw [ll] at this
    exact absurd this (by show ¬ 0 = bs.length + 2; omega)
  · rw [len_cps, e, ll]; omega
  · refine kept_q x z ?_
    rw [e]; unfold nameL; rw [List.getLast?_concat]
theorem nameL_inj {bs : List Nat} {at_ c d : Nat} (h : nameL bs at_ c = nameL bs at_ d) : c = d := by
  unfold nameL at h
  have h1 := (List.append_inj' h rfl).1
  have h2 := (List.append_inj' h1 rfl).1
  have h3 := (List.append_inj' h2 rfl).2
  injection h3
def letterK (c hop : Int) (k : Nat) : Nat := ((c + hop * (k : Int)) % 26).toNat + 97
theorem letterK_ne {c hop : Int} (hh : hop = 1 ∨ hop = 3 ∨ hop = 5) {i j : Nat} (hj : j < 6) (hi : i < j) : letterK c hop i ≠ letterK c hop j := by
  unfold letterK
  intro e
  have a0 := Int.emod_nonneg (c + hop * (i : Int)) (by decide : (26 : Int) ≠ 0)
  have b0 := Int.emod_nonneg (c + hop * (j : Int)) (by decide : (26 : Int) ≠ 0)
  rcases hh with rfl | rfl | rfl <;> omega
theorem cut_lo (z : Str) {k : Nat} (h : k ≤ z.cps.toList.length) : (cutS z none (some (k : Int))).cps.toList = z.cps.toList.take k := by
  unfold cutS
  rw [HT.sIx_none, HT.sIx_nat, List.drop_zero, Nat.sub_zero, len_cps, Nat.min_eq_left h]
theorem cut_hi (z : Str) {k : Nat} (h : k ≤ z.cps.toList.length) : (cutS z (some (k : Int)) none).cps.toList = z.cps.toList.drop k := by
  unfold cutS
  rw [HT.sIx_none, HT.sIx_nat, len_cps, Nat.min_eq_left h]
  show ((z.cps.toList.drop k).take (z.cps.toList.length - k)).toArray.toList = _
  rw [List.take_of_length_le (by rw [List.length_drop]; omega)]
def spNames : Sp := fun vs H Q _ => ∃ (c : Int) (m : Nat), vs = [.int c, .int (m : Nat)] ∧ 1 ≤ m ∧ m ≤ 6 ∧ ∀ H' l (nm : List Str), Same H H' → H l = none → H' l = some (.lst (nm.map V.str)) → Nms nm → nm.length = m → Q (.ref l) H'
theorem sc_names : FnScope ["_law_cell", "_law_many", "_law_letters", "_law_base", "_law_at", "_law_hop", "_law_found", "_law_k", "_law_letter"] ["_law_cell", "_law_many"] (defScope sNames) := ⟨rfl, rfl, rfl, by decide +kernel, rfl, by decide +kernel, by decide +kernel⟩
theorem ok_names (TP : TxtP K mg cl) (TL : TxtL K mg) : Cal P w K mg base 3 "_law_names" spNames := by
  refine TL.names.ok sc_names (fun vs H Q E h => ?_) fun f cdv _ outer s H vs Q E hr h => ?_
  · obtain ⟨c, m, rfl, _⟩ := h; rfl
  obtain ⟨c, m, rfl, h1, h6, q⟩ := h
  have nd := sc_names.nd
  refine ⟨_, pss_cons (ps_set (i := 2) nd rfl (Or.inl rfl) pe_str)
    (pss_cons (ps_set (i := 3) nd rfl (Or.inl rfl) (qc (ok_word TP TL) hr (Nat.le_refl _) (pa_cons (pv 0) (pa_cons (pe_op op_mod (pv 0) pe_int) pa_nil))))
    (pss_cons (ps_set (i := 4) nd rfl (Or.inl rfl) (pe_op op_mod (pe_op op_fdiv (pv 0) pe_int) (pe_op op_add (pe_callB call_len_str (by rfl) TP.len PySem.boot_len (pa_cons (pv 3) pa_nil)) pe_int)))
    (pss_cons (ps_set (i := 5) nd rfl (Or.inl rfl) (pe_ix ix_list (pe_lst (pa_cons pe_int (pa_cons pe_int (pa_cons pe_int pa_nil)))) (pe_op op_mod (pe_op op_fdiv (pv 0) pe_int) pe_int) (fun _ _ => rfl)))
    (pss_cons (ps_set (i := 6) nd rfl (Or.inl rfl) (pe_lst pa_nil))
    (pss_cons (ps_for PassesOwn.never rfl (pi_range1 (by rfl) TP.range (pa_cons (pv 1) pa_nil)) (pg_name (i := 7) nd rfl (Or.inl rfl))
      (pss_cons (ps_set (i := 8) nd rfl (Or.inl rfl) (pe_ix ix_str (pv 2) (pe_op op_mod (pe_op op_add (pe_op op_fdiv (pv 0) pe_int) (pe_op op_mul (pv 5) (pv 7))) pe_int) (fun _ _ => rfl)))
      (pss_one (ps_expr (pe_bm PySem.F.plainAttrs_list PySem.F.slot_list_append PySem.F.type_list_append mt_append (pv 6) (pa_cons (pe_op op_add_str (pe_op op_add_str (pe_op op_add_str (pe_slice sl_str (pv 3) po_none (po_some (pv 4))) (pv 8)) (pe_slice sl_str (pv 3) (po_some (pv 4)) po_none)) pe_str) pa_nil))))))
    (pss_one (ps_ret (pv 6)))))))), ?_⟩
  have r0 := Int.emod_nonneg c (by decide : (7 : Int) ≠ 0)
  have r1 := Int.emod_lt_of_pos c (by decide : (0 : Int) < 7)
  refine ⟨_, rfl, _, rfl, _, _, rfl, rfl, (by show (0 : Int) < 7; decide), c, (c % 7).toNat, ?_, by omega, fun b hb hbs => ?_⟩
  · show [V.int c, V.int (c % 7)] = [V.int c, V.int (((c % 7).toNat : Nat) : Int)]
    rw [Int.toNat_of_nonneg r0]
  have lb : b.length ≤ 6 := by rw [len_cps]; omega
  refine ⟨_, rfl, _, _, rfl, rfl, ⟨by decide, by decide⟩, _, rfl, b, rfl, Nat.le_of_lt (sz (by omega)), _, _, rfl, rfl, _, _, rfl, rfl, (by show (0 : Int) < ((b.length : Nat) : Int) + 1; omega), ?_⟩
  have a0 := Int.emod_nonneg (c / 7) (by omega : ((b.length : Nat) : Int) + 1 ≠ 0)
  have a1 := Int.emod_lt_of_pos (c / 7) (by omega : (0 : Int) < ((b.length : Nat) : Int) + 1)
  obtain ⟨at_, eat⟩ : ∃ at_ : Nat, c / 7 % (((b.length : Nat) : Int) + 1) = (at_ : Int) := ⟨_, (Int.toNat_of_nonneg a0).symm⟩
  show tSeq _ _ _ [some (.int c), some (.int (m : Nat)), some (.str "abcdefghijklmnopqrstuvwxyz"), some (.str b), some (.int (c / 7 % (((b.length : Nat) : Int) + 1))), none, none, none, none] H
  rw [eat]
  rw [eat] at a1
  have hat : at_ ≤ b.cps.toList.length := by rw [← len_cps]; omega
  refine ⟨(by show 3 ≤ sizeLine; decide), fun l0 hl0 => ?_⟩
  have h0 := Int.emod_nonneg (c / 49) (by decide : (3 : Int) ≠ 0)
  have h2 := Int.emod_lt_of_pos (c / 49) (by decide : (0 : Int) < 3)
  obtain ⟨hop, ehop, hh⟩ : ∃ hop : Int, atI [V.int 1, V.int 3, V.int 5] (c / 49 % 3) = some (.int hop) ∧ (hop = 1 ∨ hop = 3 ∨ hop = 5) := by
    have : c / 49 % 3 = 0 ∨ c / 49 % 3 = 1 ∨ c / 49 % 3 = 2 := by omega
    rcases this with e | e | e <;> rw [e]
    · exact ⟨1, rfl, .inl rfl⟩
    · exact ⟨3, rfl, .inr (.inl rfl)⟩
    · exact ⟨5, rfl, .inr (.inr rfl)⟩
  have s0 := same_new hl0 (.lst [.int 1, .int 3, .int 5])
  refine ⟨_, rfl, _, _, rfl, rfl, ⟨by decide, by decide⟩, _, _, rfl, rfl, (by show (0 : Int) < 3; decide), l0, _, _, _, rfl, rfl, SqL.of upd_same, ehop, Nat.zero_le _, fun l hl => ?_⟩
  have s1 := same_new hl (.lst [])
  generalize upd H l0 (.lst [.int 1, .int 3, .int 5]) = Ha at s0 s1 hl ⊢
  have hlH : H l = none := s0.free hl
  refine ⟨_, rfl, ((m : Nat) : Int), rfl, by omega, by omega, for_range (lo := 0) (n := ((m : Nat) : Int).toNat) (fun i σ H' => ∃ (nm : List Str) (o7 o8 : Option V),
      σ = [some (.int c), some (.int (m : Nat)), some (.str "abcdefghijklmnopqrstuvwxyz"), some (.str b), some (.int (at_ : Nat)), some (.int hop), some (.ref l), o7, o8] ∧ Same H H' ∧ H' l = some (.lst (nm.map V.str)) ∧ nm.length = i ∧
      ∀ (j : Nat) x, nm[j]? = some x → x.cps.toList = nameL b.cps.toList at_ (letterK (c / 147) hop j))
    ⟨[], none, none, rfl, s0.trans s1, upd_same, rfl, fun j x e => by simp at e⟩ ?_ ?_⟩
  · rintro i σ H' hi ⟨nm, o7, o8, rfl, sm, hL, ln, hx⟩
    have k0 := Int.emod_nonneg (c / 147 + hop * (0 + (i : Int))) (by decide : (26 : Int) ≠ 0)
    have k1 := Int.emod_lt_of_pos (c / 147 + hop * (0 + (i : Int))) (by decide : (0 : Int) < 26)
    have c1 := cut_lo b hat
    have c2 := cut_hi b hat
    have g1 := cutS_length b none (some (at_ : Int))
    have g2 := cutS_length b (some (at_ : Int)) none
    refine ⟨_, rfl, _, rfl, _, _, rfl, rfl, ⟨by decide, by decide⟩, _, rfl, _, rfl, _, _, rfl, rfl, .inl (by rcases hh with e | e | e <;> rw [e] <;> exact ⟨by decide, by decide⟩), _, _, rfl, rfl, _, _, rfl, rfl, (by show (0 : Int) < 26; decide), _, _, _, rfl, rfl, (by decide +kernel), abc_at k0 k1, ?_⟩
    refine ⟨_, rfl, .inl ⟨rfl, _, SqL.of hL⟩, _, rfl, _, rfl, _, rfl, b, rfl, Nat.le_of_lt (sz (by omega)), _, rfl, _, _, rfl, rfl, Nat.le_of_lt (sz (by show (cutS b none (some (at_ : Int))).length + 1 ≤ _; omega)), ?_⟩
    refine ⟨_, rfl, _, rfl, _, rfl, b, rfl, Nat.le_of_lt (sz (by omega)), _, _, rfl, rfl, ?_, _, _, rfl, rfl, ?_, l, _, _, rfl, rfl, hL, by rw [List.length_map, ln]; exact sz (by omega), ?_⟩
    · refine Nat.le_of_lt (sz ?_)
      rw [len_app, len_one]
      omega
    · refine Nat.le_of_lt (sz ?_)
      rw [len_app, len_app, len_one]
      show _ + 1 ≤ 100000
      omega
    · refine ⟨nm ++ [cutS b none (some (at_ : Int)) ++ ⟨#[((c / 147 + hop * (0 + (i : Int))) % 26).toNat + 97]⟩ ++ cutS b (some (at_ : Int)) none ++ "q"], _, _, rfl, fun z o e => ?_, ?_, ?_, fun j x e => ?_⟩
      · rw [upd_ne (ne_of_none e hlH)]; exact sm _ _ e
      · rw [upd_same, List.map_append]; rfl
      · rw [List.length_append, ln]; rfl
      · by_cases hj : j < nm.length
        · rw [List.getElem?_append_left hj] at e
          exact hx j x e
        · have hlt := (List.getElem?_eq_some_iff.mp e).1
          rw [List.length_append, List.length_singleton] at hlt
          obtain rfl : j = nm.length := by omega
          rw [List.getElem?_append_right (Nat.le_refl _), Nat.sub_self] at e
          rw [← Option.some.inj e, app_cps, app_cps, app_cps, c1, c2]
          unfold nameL letterK
          rw [ln, show (0 : Int) + (i : Int) = (i : Int) by omega]
          rfl
  · rintro σ H' ⟨nm, o7, o8, rfl, sm, hL, ln, hx⟩
    have lm : nm.length = m := by rw [ln]; omega
    refine ⟨_, rfl, q H' l nm sm hlH hL ⟨?_, fun x hm => ?_, by omega, by omega⟩ lm⟩
    · rw [List.nodup_iff_pairwise_ne, List.pairwise_iff_getElem]
      intro i j hi hj hij e
      have e1 := hx i _ (List.getElem?_eq_getElem hi)
      have e2 := hx j _ (List.getElem?_eq_getElem hj)
      rw [e, e2] at e1
      exact letterK_ne hh (by omega) hij (nameL_inj e1).symm
    · obtain ⟨j, e⟩ := List.mem_iff_getElem?.mp hm
      have k1 := Int.emod_lt_of_pos (c / 147 + hop * (j : Int)) (by decide : (0 : Int) < 26)
      refine isNm_of (hx j x e) hbs (by rw [← len_cps]; exact lb) ?_
      unfold letterK
      omega
end
end Rw

set_option Elab.async false
set_option linter.all false
set_option maxRecDepth 100000
set_option maxHeartbeats 4000000
/-! The law's helpers: grown, told_by. -/
namespace Rw
open PySem PySem.Spec PyProof.Rows L2
/-- a statement, then the rest, which is shown once, from what holds between -/
def tMid (t u : TS) : TS := fun D σ H => ∃ M : L2.St → Hp → Prop, t { D with nx := M } σ H ∧ ∀ σ' H', M σ' H' → u D σ' H'
theorem pss_mid {X : Cx} {st : Stmt} {rest : List Stmt} {t u : TS} (h1 : PS X st t) (h2 : PSs X rest u) : PSs X (st :: rest) (tMid t u) := by
  refine ⟨fun pins s σ H D I ⟨M, hm, hu⟩ => wpAny_execs_cons (thn (h1.run pins s σ H { D with nx := M } I hm) fun f s1 q => ?_)⟩
  cases f with
  | next =>
    obtain ⟨σ', H', I', q⟩ := q
    exact h2.run pins s1 σ' H' D I' (hu σ' H' q)
  | ret v => exact q
  | brk => exact q
  | cont => exact q
section
variable {P : Program} {w : World} {K : PySem.W.Frag} {mg : Str → Option Value} {base : Heap} {cl : Kd → Addr} {nm : List Str} {cS : Addr}
theorem cutV_lo (xs : List V) {k : Nat} (h : k ≤ xs.length) : cutV xs none (some (k : Int)) = xs.take k := by
  unfold cutV
  rw [HT.sIx_none, HT.sIx_nat, List.drop_zero, Nat.sub_zero, Nat.min_eq_left h]
theorem cutV_hi (xs : List V) {k : Nat} (h : k ≤ xs.length) : cutV xs (some (k : Int)) none = xs.drop k := by
  unfold cutV
  rw [HT.sIx_none, HT.sIx_nat, Nat.min_eq_left h, List.take_of_length_le (by rw [List.length_drop]; omega)]
theorem cutV_m1 (xs : List V) : cutV xs none (some (-1)) = xs.take (xs.length - 1) := by
  unfold cutV
  rw [HT.sIx_none]
  have e : HT.sIx xs.length xs.length (some (-1)) = xs.length - 1 := by
    show (if (-1 : Int) < 0 then ((-1 : Int) + (xs.length : Int)).toNat else min (-1 : Int).toNat xs.length) = xs.length - 1
    rw [if_pos (by decide)]; omega
  rw [e, List.drop_zero, Nat.sub_zero]
theorem atI_m1 {xs : List V} {y : V} (h : xs[xs.length - 1]? = some y) : atI xs (-1) = some y := by
  have lt := (List.getElem?_eq_some_iff.mp h).1
  have e : xs = xs.take (xs.length - 1) ++ [y] := by
    have := take_step h
    rw [Nat.sub_add_cancel (by omega), List.take_length] at this
    exact this
  rw [e]
  exact atI_last _ _
/-- a pile of told trees -/
structure Pile (nm : List Str) (H : Hp) (xs : List V) (ts : List Tl) (n : Nat) : Prop where
  at_ : ToldsAt nm H xs ts
  wf : wfs nm.length ts
  sz : sizes ts ≤ n
theorem Pile.len {H : Hp} {xs : List V} {ts : List Tl} {n : Nat} (h : Pile nm H xs ts n) : xs.length ≤ n := by
  have := h.at_.len; have := len_sizes ts; have := h.sz; omega
theorem Pile.ext {S : List Addr} {H H' : Hp} {xs : List V} {ts : List Tl} {n : Nat} (h : Pile nm H xs ts n) (e : Ext S H H') : Pile nm H' xs ts n := ⟨h.at_.ext e, h.wf, h.sz⟩
theorem sizes_split (ts : List Tl) (k : Nat) : sizes (ts.take k) + sizes (ts.drop k) = sizes ts := by
  have := sizes_app (ts.take k) (ts.drop k)
  rw [List.take_append_drop] at this
  omega
theorem wfs_split {m : Nat} {ts : List Tl} (k : Nat) (h : wfs m ts) : wfs m (ts.take k) ∧ wfs m (ts.drop k) := by
  rw [← List.take_append_drop k ts] at h
  exact (wfs_app m _ _).mp h
/-- one tree more -/
theorem Pile.add {H : Hp} {xs : List V} {ts : List Tl} {n : Nat} {y : V} {t : Tl} (h : Pile nm H xs ts n) (hy : ToldAt nm H y t) (wf : t.wf nm.length) (one : t.size = 1) : Pile nm H (xs ++ [y]) (ts ++ [t]) (n + 1) :=
  ⟨h.at_.app (.one hy), (wfs_app _ _ _).mpr ⟨h.wf, wf, True.intro⟩, by rw [sizes_app]; show sizes ts + (t.size + 0) ≤ n + 1; have := h.sz; omega⟩
/-- the last k trees become one -/
theorem Pile.fold {H : Hp} {xs : List V} {ts : List Tl} {n k : Nat} {y : V} {t : Tl} (h : Pile nm H xs ts n) (hy : ToldAt nm H y t) (wf : t.wf nm.length) (sz : t.size = 1 + sizes (ts.drop k)) : Pile nm H (xs.take k ++ [y]) (ts.take k ++ [t]) (n + 1) :=
  ⟨(h.at_.take k).app (.one hy), (wfs_app _ _ _).mpr ⟨(wfs_split k h.wf).1, wf, True.intro⟩, by
    rw [sizes_app]
    show sizes (ts.take k) + (t.size + 0) ≤ n + 1
    have := sizes_split ts k; have := h.sz; omega⟩
def spGrown (nm : List Str) : Sp := fun vs H Q _ => ∃ (p l : Addr) (c : Int) (xs : List V) (ts : List Tl) (n : Nat), vs = [.ref p, .int c, .ref l] ∧ H p = some (.lst xs) ∧ H l = some (.lst (nm.map V.str)) ∧ 0 < nm.length ∧ Pile nm H xs ts n ∧ n ≤ 100 ∧
  ∀ H' q ys us, Same H H' → H' q = some (.lst ys) → Pile nm H' ys us (n + 1) → Q (.ref q) H'
theorem sc_grown : FnScope ["_law_pile", "_law_cell", "_law_names_here", "_law_kind", "_law_more", "_law_at"] ["_law_pile", "_law_cell", "_law_names_here"] (defScope sGrown) := ⟨rfl, rfl, rfl, by decide +kernel, rfl, by decide +kernel, by decide +kernel⟩
theorem ok_grown (TP : TxtP K mg cl) (TL : TxtL K mg) : Cal P w K mg base 2 "_law_grown" (spGrown nm) := by
  refine TL.grown.ok sc_grown (fun vs H Q E h => ?_) fun f cdv _ outer s H vs Q E hr h => ?_
  · obtain ⟨p, l, c, xs, ts, n, rfl, _⟩ := h; rfl
  obtain ⟨p, l, c, xs, ts, n, rfl, hp, hl, npos, pile, hn, q⟩ := h
  have nd := sc_grown.nd
  refine ⟨_, pss_cons (ps_set (i := 3) nd rfl (Or.inl rfl) (pe_op op_mod (pe_op op_fdiv (qc (ok_mixed TL) hr (Nat.le_refl _) (pa_cons (pv 1) (pa_cons pe_int pa_nil))) pe_int) pe_int))
    (pss_cons (ps_set (i := 4) nd rfl (Or.inl rfl) (pe_op op_fdiv (qc (ok_mixed TL) hr (Nat.le_refl _) (pa_cons (pv 1) (pa_cons pe_int pa_nil))) pe_int))
    (pss_cons (ps_if (pt_cmpR op_eq (pv 3) pe_int (nomark _)) (pss_one (ps_ret (pe_op op_cat (pv 0) (pe_lst (pa_cons (pe_tup (pa_cons pe_str (pa_cons (pe_cmpR op_eq (pe_op op_mod (pv 4) pe_int) pe_int (nomark _)) pa_nil))) pa_nil))))) pss_nil)
    (pss_mid (ps_if (PW.pt (pw_and (pt_cmpR op_eq (pv 3) pe_int (nomark _)) (pw_and1 (pt_cmpR (op_neNil hr.units0) (pv 0) (pe_lst pa_nil) (nomark _)))))
      (pss_one (ps_ret (pe_op op_cat (pe_slice sl_list (pv 0) po_none (po_some (pe_un un_neg pe_int))) (pe_lst (pa_cons (pe_tup (pa_cons pe_str (pa_cons (pe_ix ix_list (pv 0) (pe_un un_neg pe_int) (fun _ _ => rfl)) pa_nil))) pa_nil))))) pss_nil)
    (pss_mid (ps_if (PW.pt (pw_and (pt_cmpR op_gt (pv 3) pe_int (nomark _)) (pw_and1 (pt_cmpR op_gt (pe_callB call_len_seq (by rfl) TP.len PySem.boot_len (pa_cons (pv 0) pa_nil)) pe_int (nomark _)))))
      (pss_cons (ps_set (i := 5) nd rfl (Or.inl rfl) (pe_callB (call_max2 rfl) (by rfl) TP.max boot_max' (pa_cons pe_int (pa_cons (pe_op op_sub (pe_op op_sub (pe_callB call_len_seq (by rfl) TP.len PySem.boot_len (pa_cons (pv 0) pa_nil)) pe_int) (pe_op op_mod (pv 4) pe_int)) pa_nil))))
      (pss_one (ps_ret (pe_op op_cat (pe_slice sl_list (pv 0) po_none (po_some (pv 5))) (pe_lst (pa_cons
        (pe_op op_catT (pe_tup (pa_cons (pe_ix ix_list (pe_lst (pa_cons pe_str (pa_cons pe_str pa_nil))) (pe_op op_mod (pe_op op_fdiv (pv 4) pe_int) pe_int) (fun _ _ => rfl)) pa_nil)) (pe_callTy call_tuple_of (by rfl) TP.tuple boot_tuple' (pa_cons (pe_slice sl_list (pv 0) (po_some (pv 5)) po_none) pa_nil))) pa_nil)))))) pss_nil)
    (pss_one (ps_ret (pe_op op_cat (pv 0) (pe_lst (pa_cons (pe_tup (pa_cons pe_str (pa_cons (pe_ix ix_list (pv 2) (pe_op op_mod (pv 4) (pe_callB call_len_seq (by rfl) TP.len PySem.boot_len (pa_cons (pv 2) pa_nil))) (fun _ _ => rfl)) pa_nil))) pa_nil)))))))))  , ?_⟩
  refine ⟨_, rfl, c, 1, rfl, fun v1 _ => ⟨_, _, rfl, rfl, ⟨by decide, by decide⟩, _, _, rfl, rfl, (by show (0 : Int) < 12; decide), ?_⟩⟩
  refine ⟨_, rfl, c, 2, rfl, fun v2 _ => ⟨_, _, rfl, rfl, ⟨by decide, by decide⟩, ?_⟩⟩
  have hxl := pile.at_.len
  have hxn := pile.len
  refine ⟨_, rfl, rfl, _, rfl, ?_⟩
  refine ite2 (fun c1 => ?_) (fun c1 => ?_)
  · refine ⟨_, rfl, _, rfl, _, _, rfl, rfl, (by show (0 : Int) < 2; decide), rfl, (by show 2 ≤ sizeLine; decide), fun z hz => ⟨(by show 1 ≤ sizeLine; decide), fun y hy => ?_⟩⟩
    have s1 := same_new hz (.tup [.str "fixed", .bl (decide (V.int (v2 / 5 % 2) = V.int 1))])
    have s2 := same_new hy (.lst [.ref z])
    refine ⟨p, y, _, _, rfl, rfl, s2 _ _ (s1 _ _ hp), upd_same, Nat.le_of_lt (sz (by rw [List.length_singleton]; omega)), fun r hr2 => ?_⟩
    have s3 := same_new hr2 (.lst (xs ++ [.ref z]))
    have sA := s1.trans (s2.trans s3)
    refine q _ r (xs ++ [.ref z]) (ts ++ [.fx (decide (V.int (v2 / 5 % 2) = V.int 1))]) sA upd_same ((pile.ext (S := []) (.same sA)).add (t := .fx (decide (V.int (v2 / 5 % 2) = V.int 1))) ⟨z, rfl, s3 _ _ (s2 _ _ upd_same)⟩ True.intro rfl)
  refine ⟨fun σ' H' => Same H H' ∧ σ' = [some (.ref p), some (.int c), some (.ref l), some (.int (v1 / 5 % 12)), some (.int (v2 / 5)), none], ?_, ?_⟩
  · refine ⟨_, rfl, rfl, _, rfl, ?_⟩
    refine ite2 (fun c2 => ?_) (fun c2 => ⟨Same.refl H, rfl⟩)
    refine ⟨_, rfl, Nat.zero_le _, fun e he => ⟨p, e, xs, rfl, rfl, SqL.of (same_new he _ _ _ hp), SqL.of upd_same, _, rfl, ?_⟩⟩
    have s0 := same_new he (.lst [])
    generalize upd H e (.lst []) = H0 at s0 ⊢
    have pile0 := pile.ext (S := []) (.same s0)
    by_cases hx : xs = []
    · rw [hx]; exact ⟨s0, rfl⟩
    rw [show xs.isEmpty = false by cases xs with | nil => exact absurd rfl hx | cons a r => rfl]
    have pos : 0 < xs.length := List.length_pos_iff.mpr hx
    obtain ⟨y, hy⟩ : ∃ y, xs[xs.length - 1]? = some y := ⟨_, List.getElem?_eq_getElem (by omega)⟩
    obtain ⟨t, ht, told⟩ := pile0.at_.get hy
    have hdrop : ts.drop (xs.length - 1) = [t] := by
      obtain ⟨lt, e⟩ := List.getElem?_eq_some_iff.mp ht
      rw [List.drop_eq_getElem_cons lt, e, List.drop_of_length_le (by omega)]
    refine ⟨_, rfl, 1, rfl, -1, rfl, p, xs, rfl, SqL.of (s0 _ _ hp), fun a ha => ?_⟩
    rw [cutV_m1]
    have s1 := same_new ha (.lst (xs.take (xs.length - 1)))
    refine ⟨_, rfl, 1, rfl, p, xs, -1, y, rfl, rfl, SqL.of (s1 _ _ (s0 _ _ hp)), atI_m1 hy, (by show 2 ≤ sizeLine; decide), fun z hz => ⟨(by show 1 ≤ sizeLine; decide), fun b hb => ?_⟩⟩
    have s2 := same_new hz (.tup [.str "not", y])
    have s3 := same_new hb (.lst [.ref z])
    refine ⟨a, b, _, _, rfl, rfl, s3 _ _ (s2 _ _ upd_same), upd_same, Nat.le_of_lt (sz (by rw [List.length_singleton, List.length_take]; omega)), fun r hr2 => ?_⟩
    have s4 := same_new hr2 (.lst (xs.take (xs.length - 1) ++ [.ref z]))
    have sB := s1.trans (s2.trans (s3.trans s4))
    refine q _ r _ _ (s0.trans sB) upd_same ((pile0.ext (S := []) (.same sB)).fold (k := xs.length - 1) (t := .nt t) ⟨z, y, rfl, s4 _ _ (s3 _ _ upd_same), told.ext (S := []) (.same sB)⟩ (show t.wf nm.length from wfs_mem pile.wf (List.mem_of_getElem? ht)) ?_)
    rw [hdrop]; rfl
  rintro σ' H0 ⟨s0, rfl⟩
  have pile0 := pile.ext (S := []) (.same s0)
  refine ⟨fun σ' H' => Same H H' ∧ ∃ o, σ' = [some (.ref p), some (.int c), some (.ref l), some (.int (v1 / 5 % 12)), some (.int (v2 / 5)), o], ?_, ?_⟩
  · refine ⟨_, rfl, _, _, rfl, rfl, _, rfl, ?_⟩
    refine ite2 (fun c3 => ?_) (fun c3 => ⟨s0, _, rfl⟩)
    refine ⟨_, rfl, p, _, rfl, .inl (SqL.of (s0 _ _ hp)), _, _, rfl, rfl, _, rfl, ?_⟩
    refine ite2 (fun c4 => ?_) (fun c4 => ⟨s0, _, rfl⟩)
    have two : 1 < xs.length := by have := of_decide_eq_true c4; omega
    have m0 := Int.emod_nonneg (v2 / 5) (by decide : (3 : Int) ≠ 0)
    have m1 := Int.emod_lt_of_pos (v2 / 5) (by decide : (0 : Int) < 3)
    have i0 := Int.emod_nonneg (v2 / 5 / 3) (by decide : (2 : Int) ≠ 0)
    have i1 := Int.emod_lt_of_pos (v2 / 5 / 3) (by decide : (0 : Int) < 2)
    obtain ⟨k, hk, hk2⟩ : ∃ k : Nat, (if ((xs.length : Nat) : Int) - 2 - v2 / 5 % 3 > 0 then ((xs.length : Nat) : Int) - 2 - v2 / 5 % 3 else 0) = (k : Int) ∧ k + 2 ≤ xs.length := by
      by_cases z : ((xs.length : Nat) : Int) - 2 - v2 / 5 % 3 > 0
      · rw [if_pos z]; exact ⟨(((xs.length : Nat) : Int) - 2 - v2 / 5 % 3).toNat, by omega, by omega⟩
      · rw [if_neg z]; exact ⟨0, rfl, by omega⟩
    refine ⟨_, rfl, p, _, rfl, .inl (SqL.of (s0 _ _ hp)), _, _, rfl, rfl, _, rfl, _, _, rfl, rfl, (by show (0 : Int) < 3; decide), _, _, rfl, rfl, _, _, rfl, ?_⟩
    rw [hk]
    refine ⟨_, rfl, _, rfl, _, rfl, p, xs, rfl, SqL.of (s0 _ _ hp), fun a ha => ?_⟩
    rw [cutV_lo xs (by omega)]
    have s1 := same_new ha (.lst (xs.take k))
    refine ⟨(by show 2 ≤ sizeLine; decide), fun b hb => ?_⟩
    have s2 := same_new hb (.lst [.str "and", .str "or"])
    obtain ⟨g, eg⟩ : ∃ g : Bool, atI [V.str "and", V.str "or"] (v2 / 5 / 3 % 2) = some (.str (Tl.gr g (ts.drop k)).kd.word) := by
      have : v2 / 5 / 3 % 2 = 0 ∨ v2 / 5 / 3 % 2 = 1 := by omega
      rcases this with e | e <;> rw [e]
      · exact ⟨true, rfl⟩
      · exact ⟨false, rfl⟩
    refine ⟨_, rfl, _, _, rfl, rfl, ⟨by decide, by decide⟩, _, _, rfl, rfl, (by show (0 : Int) < 2; decide), b, _, _, _, rfl, rfl, SqL.of upd_same, eg, (by show 1 ≤ sizeLine; decide), fun d hd => ?_⟩
    have s3 := same_new hd (.tup [.str (Tl.gr g (ts.drop k)).kd.word])
    refine ⟨_, rfl, _, rfl, _, rfl, p, xs, rfl, SqL.of (s3 _ _ (s2 _ _ (s1 _ _ (s0 _ _ hp)))), fun e he => ?_⟩
    rw [cutV_hi xs (by omega)]
    have s4 := same_new he (.lst (xs.drop k))
    refine ⟨e, _, rfl, .inl ⟨SqL.of upd_same, fun f' hf' => ?_⟩⟩
    have s5 := same_new hf' (.tup (xs.drop k))
    have ld : (xs.drop k).length = xs.length - k := List.length_drop
    refine ⟨d, f', _, _, rfl, rfl, SqT.of (s5 _ _ (s4 _ _ upd_same)), SqT.of upd_same, by simp, Nat.le_of_lt (sz (by rw [List.length_singleton]; omega)), fun z => ?_, fun _ t ht => ⟨(by show 1 ≤ sizeLine; decide), fun u hu => ?_⟩⟩
    · rw [z] at ld; simp at ld; omega
    have s6 := same_new ht (.tup ([.str (Tl.gr g (ts.drop k)).kd.word] ++ xs.drop k))
    have s7 := same_new hu (.lst [.ref t])
    refine ⟨a, u, _, _, rfl, rfl, s7 _ _ (s6 _ _ (s5 _ _ (s4 _ _ (s3 _ _ (s2 _ _ upd_same))))), upd_same, Nat.le_of_lt (sz (by rw [List.length_singleton, List.length_take]; omega)), fun r hr2 => ?_⟩
    have s8 := same_new hr2 (.lst (xs.take k ++ [.ref t]))
    have sB := s1.trans (s2.trans (s3.trans (s4.trans (s5.trans (s6.trans (s7.trans s8))))))
    refine q _ r _ _ (s0.trans sB) upd_same ((pile0.ext (S := []) (.same sB)).fold (k := k) (t := .gr g (ts.drop k)) ⟨t, xs.drop k, rfl, s8 _ _ (s7 _ _ upd_same), (pile0.at_.drop k).ext (S := []) (.same sB)⟩ ⟨?_, (wfs_split k pile.wf).2⟩ rfl)
    rw [List.length_drop]; omega
  rintro σ' H1 ⟨s1, o, rfl⟩
  have nl : ((nm.map V.str).length : Int) = ((nm.length : Nat) : Int) := by rw [List.length_map]
  have j0 := Int.emod_nonneg (v2 / 5) (by omega : ((nm.length : Nat) : Int) ≠ 0)
  have j1 := Int.emod_lt_of_pos (v2 / 5) (by omega : (0 : Int) < ((nm.length : Nat) : Int))
  obtain ⟨x, hx⟩ : ∃ x, nm[(v2 / 5 % ((nm.length : Nat) : Int)).toNat]? = some x := ⟨_, List.getElem?_eq_getElem (by omega)⟩
  refine ⟨_, rfl, _, rfl, _, rfl, _, rfl, l, _, rfl, .inl (SqL.of (s1 _ _ hl)), _, _, rfl, rfl, (by rw [nl]; omega), l, _, _, .str x, rfl, rfl, SqL.of (s1 _ _ hl), atI_of (j := (v2 / 5 % ((nm.length : Nat) : Int)).toNat) (by rw [nl]; omega) (by rw [List.getElem?_map, hx]; rfl), (by show 2 ≤ sizeLine; decide), fun z hz => ⟨(by show 1 ≤ sizeLine; decide), fun y hy => ?_⟩⟩
  have s2 := same_new hz (.tup [.str "contact", .str x])
  have s3 := same_new hy (.lst [.ref z])
  refine ⟨p, y, _, _, rfl, rfl, s3 _ _ (s2 _ _ (s1 _ _ hp)), upd_same, Nat.le_of_lt (sz (by rw [List.length_singleton]; omega)), fun r hr2 => ?_⟩
  have s4 := same_new hr2 (.lst (xs ++ [.ref z]))
  have sA := s1.trans (s2.trans (s3.trans s4))
  refine q _ r _ _ sA upd_same ((pile.ext (S := []) (.same sA)).add (t := .ct (v2 / 5 % ((nm.length : Nat) : Int)).toNat) ⟨z, x, rfl, s4 _ _ (s3 _ _ upd_same), hx⟩ (show (v2 / 5 % ((nm.length : Nat) : Int)).toNat < nm.length by omega) rfl)
/-! ### told_by -/
def spToldBy (K : PySem.W.Frag) (nm : List Str) : Sp := fun vs H Q _ => ∃ (a l : Addr) (zs : List Int) (f m : Int), vs = [.ref a, .int f, .int m, .ref l] ∧ SqL K H a (zs.map V.int) ∧ zs.length ≤ 63 ∧ 0 ≤ f ∧ 0 ≤ m ∧ m ≤ 11 ∧ H l = some (.lst (nm.map V.str)) ∧ 0 < nm.length ∧
  ∀ H' v t, Same H H' → ToldAt nm H' v t → t.wf nm.length → t.size ≤ 12 → Q v H'
theorem sc_toldBy : FnScope ["_law_script", "_law_first", "_law_many", "_law_names_here", "_law_pile", "_law_k"] ["_law_script", "_law_first", "_law_many", "_law_names_here"] (defScope sToldBy) := ⟨rfl, rfl, rfl, by decide +kernel, rfl, by decide +kernel, by decide +kernel⟩
theorem ok_toldBy (TP : TxtP K mg cl) (TL : TxtL K mg) : Cal P w K mg base 3 "_law_told_by" (spToldBy K nm) := by
  refine TL.toldBy.ok sc_toldBy (fun vs H Q E h => ?_) fun f cdv _ outer s H vs Q E hr h => ?_
  · obtain ⟨a, l, zs, f, m, rfl, _⟩ := h; rfl
  obtain ⟨a, l, zs, f, m, rfl, hq, h63, hf, hm, hm2, hl, npos, q⟩ := h
  have nd := sc_toldBy.nd
  refine ⟨_, pss_cons (ps_set (i := 4) nd rfl (Or.inl rfl) (pe_lst pa_nil))
    (pss_cons (ps_for PassesOwn.never rfl (pi_range1 (by rfl) TP.range (pa_cons (pv 2) pa_nil)) (pg_name (i := 5) nd rfl (Or.inl rfl))
      (pss_one (ps_set (i := 4) nd rfl (Or.inl rfl) (qc (ok_grown (nm := nm) TP TL) hr (Nat.le_refl _) (pa_cons (pv 4) (pa_cons (pe_op op_add (qc (ok_cell TP TL) hr (by decide) (pa_cons (pv 0) (pa_cons (pe_op op_add (pv 1) (pv 5)) pa_nil))) (pe_op op_mul pe_int (pv 5))) (pa_cons (pv 3) pa_nil)))))))
    (pss_cons (ps_if (pt_cmpR op_gt (pe_callB call_len_seq (by rfl) TP.len PySem.boot_len (pa_cons (pv 4) pa_nil)) pe_int (nomark _)) (pss_one (ps_ret (pe_op op_catT (pe_tup (pa_cons pe_str pa_nil)) (pe_callTy call_tuple_of (by rfl) TP.tuple boot_tuple' (pa_cons (pv 4) pa_nil))))) pss_nil)
    (pss_one (ps_ret (pe_ix ix_list (pe_op op_cat (pv 4) (pe_lst (pa_cons (pe_tup (pa_cons pe_str (pa_cons (pe_ix ix_list (pv 3) pe_int (fun _ _ => rfl)) pa_nil))) pa_nil))) pe_int (fun _ _ => rfl)))))), ?_⟩
  refine ⟨Nat.zero_le _, fun p hp => ?_⟩
  have s0 := same_new hp (.lst [])
  refine ⟨_, rfl, m, rfl, by omega, by omega, for_range (lo := 0) (n := m.toNat) (fun i σ H' => ∃ (p : Addr) (xs : List V) (ts : List Tl) (o : Option V), σ = [some (.ref a), some (.int f), some (.int m), some (.ref l), some (.ref p), o] ∧ Same H H' ∧ H' p = some (.lst xs) ∧ Pile nm H' xs ts i)
    ⟨p, [], [], none, rfl, s0, upd_same, rfl, True.intro, Nat.le_refl _⟩ ?_ ?_⟩
  · rintro i σ H1 hi ⟨p, xs, ts, o, rfl, s1, hp1, pile⟩
    refine ⟨_, rfl, _, rfl, _, rfl, _, rfl, _, _, rfl, rfl, a, zs, _, rfl, s1.seq hq, h63, by omega, fun z => ?_⟩
    refine ⟨_, rfl, _, _, rfl, rfl, .inl ⟨by decide, by decide⟩, _, _, rfl, rfl, _, rfl, p, l, _, xs, ts, i, rfl, hp1, s1 _ _ hl, npos, pile, by omega, fun H2 q2 ys us s2 h2 pile2 => ?_⟩
    exact ⟨q2, ys, us, _, rfl, s1.trans s2, h2, pile2⟩
  · rintro σ H1 ⟨p, xs, ts, o, rfl, s1, hp1, pile⟩
    have hxl := pile.at_.len
    have hxn := pile.len
    have hsz := pile.sz
    refine ⟨_, rfl, p, _, rfl, .inl (SqL.of hp1), _, _, rfl, rfl, _, rfl, ?_⟩
    refine ite2 (fun c => ?_) (fun c => ?_)
    · have two : 1 < xs.length := by have := of_decide_eq_true c; omega
      refine ⟨(by show 1 ≤ sizeLine; decide), fun d hd => ?_⟩
      have s2 := same_new hd (.tup [.str "and"])
      refine ⟨_, rfl, p, _, rfl, .inl ⟨SqL.of (s2 _ _ hp1), fun e he => ?_⟩⟩
      have s3 := same_new he (.tup xs)
      refine ⟨d, e, _, _, rfl, rfl, SqT.of (s3 _ _ upd_same), SqT.of upd_same, by simp, Nat.le_of_lt (sz (by rw [List.length_singleton]; omega)), fun z => ?_, fun _ t ht => ?_⟩
      · rw [z] at two; simp at two
      have s4 := same_new ht (.tup ([.str "and"] ++ xs))
      have sB := s2.trans (s3.trans s4)
      refine q _ _ (.gr true ts) (s1.trans sB) ⟨t, xs, rfl, upd_same, pile.at_.ext (S := []) (.same sB)⟩ ⟨by omega, pile.wf⟩ (by show 1 + sizes ts ≤ 12; omega)
    · have small : xs.length ≤ 1 := by
        have := of_decide_eq_false (Bool.eq_false_iff.mpr c)
        omega
      obtain ⟨x, hx⟩ : ∃ x, nm[0]? = some x := ⟨_, List.getElem?_eq_getElem npos⟩
      refine ⟨_, rfl, _, rfl, l, _, 0, .str x, rfl, rfl, SqL.of (s1 _ _ hl), atI_of (j := 0) rfl (by rw [List.getElem?_map, hx]; rfl), (by show 2 ≤ sizeLine; decide), fun z hz => ⟨(by show 1 ≤ sizeLine; decide), fun y hy => ?_⟩⟩
      have s2 := same_new hz (.tup [.str "contact", .str x])
      have s3 := same_new hy (.lst [.ref z])
      refine ⟨p, y, _, _, rfl, rfl, s3 _ _ (s2 _ _ hp1), upd_same, Nat.le_of_lt (sz (by rw [List.length_singleton]; omega)), fun r hr2 => ?_⟩
      have s4 := same_new hr2 (.lst (xs ++ [.ref z]))
      have sB := s2.trans (s3.trans s4)
      cases xs with
      | nil =>
        refine ⟨r, _, 0, .ref z, rfl, rfl, SqL.of upd_same, atI_0 _ _, q _ _ (.ct 0) (s1.trans sB) ⟨z, x, rfl, s4 _ _ (s3 _ _ upd_same), hx⟩ npos (by show 1 ≤ 12; omega)⟩
      | cons v xs' =>
        cases ts with
        | nil => cases hxl
        | cons t ts' =>
          obtain ⟨y', ys', e, h1, h2⟩ := pile.at_
          obtain ⟨rfl, rfl⟩ := List.cons.inj e
          have e0 : ts' = [] := by
            simp only [List.length_cons] at small hxl
            exact List.eq_nil_of_length_eq_zero (by omega)
          subst e0
          have hs : t.size + 0 ≤ m.toNat := hsz
          exact ⟨r, _, 0, v, rfl, rfl, SqL.of upd_same, atI_0 _ _, q _ _ t (s1.trans sB) (h1.ext (S := []) (.same sB)) pile.wf.1 (by omega)⟩
end
end Rw

set_option Elab.async false
set_option linter.all false
set_option maxRecDepth 100000
set_option maxHeartbeats 4000000
/-! The law's helpers: holds, row, down, whole. -/
namespace Rw
open PySem PySem.Spec PyProof.Rows L2
section
variable {P : Program} {w : World} {K : PySem.W.Frag} {mg : Str → Option Value} {base : Heap} {cl : Kd → Addr} {nm : List Str} {cS : Addr}
/-- a row of the names: the dict at R tells of each name its bit -/
def RowAt (nm : List Str) (H : Hp) (R : Addr) (x : Row) : Prop := ∃ kvs : List (Key × V), H R = some (.dK kvs) ∧ ∀ (i : Nat) n, nm[i]? = some n → valV kvs (Sum.inr n) = some (.bl (x i))
theorem RowAt.same {H H' : Hp} {R : Addr} {x : Row} (h : RowAt nm H R x) (s : Same H H') : RowAt nm H' R x := let ⟨kvs, h1, h2⟩ := h; ⟨kvs, s _ _ h1, h2⟩
/-! ### holds -/
def spHolds (nm : List Str) (d : Nat) : Sp := fun vs H Q _ => ∃ (v : V) (R : Addr) (t : Tl) (x : Row), vs = [v, .ref R] ∧ ToldAt nm H v t ∧ t.depth ≤ d ∧ t.size ≤ 1000 ∧ RowAt nm H R x ∧ ∀ H', Same H H' → Q (.bl (t.ev x)) H'
theorem sc_holds : FnScope ["_law_told", "_law_row_here", "_law_truths", "_law_inner"] ["_law_told", "_law_row_here"] (defScope sHolds) := ⟨rfl, rfl, rfl, by decide +kernel, rfl, by decide +kernel, by decide +kernel⟩
theorem all_in (x : Row) : ∀ ts : List Tl, (!inV (.bl false) (ts.map fun t => V.bl (t.ev x))) = evAll x ts
  | [] => rfl
  | t :: r => by
    have ih := all_in x r
    unfold inV at ih ⊢
    rw [List.map_cons, List.any_cons, Bool.not_or, ih]
    show ((!(t.ev x == false)) && _) = (t.ev x && _)
    cases t.ev x <;> rfl
theorem any_in (x : Row) : ∀ ts : List Tl, inV (.bl true) (ts.map fun t => V.bl (t.ev x)) = evAny x ts
  | [] => rfl
  | t :: r => by
    have ih := any_in x r
    unfold inV at ih ⊢
    rw [List.map_cons, List.any_cons, ih]
    show ((t.ev x == true) || _) = (t.ev x || _)
    cases t.ev x <;> rfl
theorem flat_bls (x : Row) (ts : List Tl) : (ts.map fun t => V.bl (t.ev x)).all flatV = true := by
  rw [List.all_map]; exact List.all_eq_true.mpr fun _ _ => rfl
theorem cutV_1 (v : V) (xs : List V) : cutV (v :: xs) (some 1) none = xs := by
  have := cutV_hi (v :: xs) (k := 1) (by rw [List.length_cons]; omega)
  exact this
theorem not_whole (v : V) (xs : List V) : ¬ (HT.sIx (v :: xs).length 0 (some 1) = 0 ∧ HT.sIx (v :: xs).length (v :: xs).length none = (v :: xs).length) := by
  intro z
  have e := HT.sIx_nat (v :: xs).length 0 1
  have e2 : HT.sIx (v :: xs).length 0 (some 1) = min 1 (v :: xs).length := e
  rw [e2, List.length_cons] at z
  omega
theorem holds_step (TL : TxtL K mg) {k d : Nat} (ih : Cal P w K mg base k "_law_holds" (spHolds nm d)) : Cal P w K mg base (k + 1) "_law_holds" (spHolds nm (d + 1)) := by
  refine TL.holds.ok sc_holds (fun vs H Q E h => ?_) fun f cdv _ outer s H vs Q E hr h => ?_
  · obtain ⟨v, R, t, x, rfl, _⟩ := h; rfl
  obtain ⟨v, R, t, x, rfl, hv, hd, hs, hR, q⟩ := h
  have nd := sc_holds.nd
  refine ⟨_, pss_cons (ps_if (pt_cmpR op_eq (pe_ix ix_tup (pv 0) pe_int (fun _ _ => rfl)) pe_str (nomark _)) (pss_one (ps_ret (pe_ix ix_tup (pv 0) pe_int (fun _ _ => rfl)))) pss_nil)
    (pss_cons (ps_if (pt_cmpR op_eq (pe_ix ix_tup (pv 0) pe_int (fun _ _ => rfl)) pe_str (nomark _)) (pss_one (ps_ret (pe_dget (hu_of hr) (pv 1) (pe_ix ix_tup (pv 0) pe_int (fun _ _ => rfl)) (fun _ _ => rfl)))) pss_nil)
    (pss_cons (ps_setLc (i := 2) (own := [("_law_inner", 3)]) (g := gName 3) (tt := tYes) (by rfl) nd rfl rfl (sw_true rfl rfl rfl (by decide +kernel)) (pi_tup (pe_slice sl_tup (pv 0) (po_some pe_int) po_none))
      (blkOk_by (own := [("_law_inner", 3)]) (N := ["_law_told", "_law_row_here", "_law_truths", "_law_inner"]) (sc := defScope sHolds) (by decide +kernel)) (fun _ _ _ _ _ => pg_name (i := 3) nd rfl (Or.inl rfl)) (fun _ _ _ _ _ => pts_nil)
      (fun _ _ _ _ _ => qc ih hr (Nat.le_refl _) (pa_cons (pv 3) (pa_cons (pv 1) pa_nil))))
    (pss_cons (ps_if (pt_cmpR op_eq (pe_ix ix_tup (pv 0) pe_int (fun _ _ => rfl)) pe_str (nomark _)) (pss_one (ps_ret (pe_not (pe_ix ix_list (pv 2) pe_int (fun _ _ => rfl))))) pss_nil)
    (pss_cons (ps_if (pt_cmpR op_eq (pe_ix ix_tup (pv 0) pe_int (fun _ _ => rfl)) pe_str (nomark _)) (pss_one (ps_ret (pe_cmpR op_notIn_seq pe_bl (pv 2) rfl))) pss_nil)
    (pss_one (ps_ret (pe_cmpR op_in_seq pe_bl (pv 2) rfl))))))), ?_⟩
  obtain ⟨a, ys, rfl, ha⟩ := hv.any
  refine ⟨_, rfl, a, _, 0, _, rfl, rfl, SqT.of ha, atI_0 _ _, rfl, _, rfl, ?_⟩
  have hR0 := hR
  obtain ⟨kvs, hR1, hR2⟩ := hR
  have single : t.single = true ∨ t.single = false := by cases t.single; exact .inr rfl; exact .inl rfl
  rcases single with one | many
  · cases t with
    | nt t => cases one
    | gr b ts => cases one
    | fx b =>
      obtain ⟨a', e, ha'⟩ := hv
      cases e
      rw [show decide (V.str (Tl.fx b).kd.word = V.str "fixed") = true from decide_eq_true rfl]
      exact ⟨_, rfl, a, _, 1, .bl b, rfl, rfl, SqT.of ha', rfl, q H (Same.refl H)⟩
    | ct i =>
      obtain ⟨a', n, e, ha', hn⟩ := hv
      cases e
      rw [show decide (V.str (Tl.ct i).kd.word = V.str "fixed") = false from decide_eq_false (by decide +kernel : ¬ V.str Kd.ct.word = V.str "fixed")]
      refine ⟨_, rfl, a, _, 0, _, rfl, rfl, SqT.of ha, atI_0 _ _, rfl, _, rfl, ?_⟩
      rw [show decide (V.str (Tl.ct i).kd.word = V.str "contact") = true from decide_eq_true rfl]
      refine ⟨_, rfl, _, rfl, a, _, 1, .str n, rfl, rfl, SqT.of ha', rfl, R, .bl (x i), rfl, ?_, q H (Same.refl H)⟩
      rw [← hR2 i n hn]
      exact DGet.k (k := Sum.inr n) hR1
  obtain ⟨a', ys', e, ha', kids⟩ := hv.many many
  cases e
  rw [ha] at ha'
  obtain rfl : ys = ys' := by
    have := Option.some.inj ha'
    injection this with this
    injection this
  have n1 : ¬ V.str t.kd.word = V.str "fixed" := by
    cases t with
    | fx b => cases many
    | ct i => cases many
    | nt t => exact (by decide +kernel : ¬ V.str Kd.nt.word = V.str "fixed")
    | gr b ts => cases b; exact (by decide +kernel : ¬ V.str Kd.br.word = V.str "fixed"); exact (by decide +kernel : ¬ V.str Kd.se.word = V.str "fixed")
  have n2 : ¬ V.str t.kd.word = V.str "contact" := by
    cases t with
    | fx b => cases many
    | ct i => cases many
    | nt t => exact (by decide +kernel : ¬ V.str Kd.nt.word = V.str "contact")
    | gr b ts => cases b; exact (by decide +kernel : ¬ V.str Kd.br.word = V.str "contact"); exact (by decide +kernel : ¬ V.str Kd.se.word = V.str "contact")
  rw [decide_eq_false n1]
  refine ⟨_, rfl, a, _, 0, _, rfl, rfl, SqT.of ha, atI_0 _ _, rfl, _, rfl, ?_⟩
  rw [decide_eq_false n2]
  have hkl := kids.len
  have kl := kids_len t
  refine ⟨_, rfl, 1, rfl, a, _, rfl, SqT.of ha, not_whole _ _, fun p hp => ?_⟩
  rw [cutV_1]
  have s1 := same_new hp (.tup ys)
  have hp1 : upd H p (.tup ys) p = some (.tup ys) := upd_same
  generalize upd H p (.tup ys) = H1 at s1 hp1 ⊢
  refine ⟨p, rfl, ⟨_, SqT.of hp1⟩, fun D hD => ?_⟩
  refine lc_tup (K := K) (a := p) (xs := ys) (fun i H' => Same H1 H' ∧ H' D = some (.lst ((t.kids.take i).map fun u => V.bl (u.ev x)))) ⟨same_new hD _, upd_same⟩ (fun i H' _ h => SqT.of (h.1 _ _ hp1)) ?_ ?_
  · rintro i y H' ey ⟨s2, hD2⟩
    obtain ⟨u, eu, hu⟩ := kids.get ey
    have mem := List.mem_of_getElem? eu
    have e1 := depths_mem mem
    have e2 := sizes_mem mem
    have e3 := kids_depth t
    have e4 := kids_size t
    have sA := s1.trans s2
    refine ⟨rfl, ?_⟩
    refine ⟨_, rfl, _, rfl, y, R, u, x, rfl, hu.ext (S := []) (.same sA), by omega, by omega, hR0.same sA, fun H2 s3 => ?_⟩
    refine ⟨_, s3 _ _ hD2, ?_, ?_, ?_⟩
    · rw [List.length_map, List.length_take]; exact sz (by omega)
    · intro c o e
      rw [upd_ne (ne_of_none e hD)]
      exact s3 _ _ (s2 _ _ e)
    · rw [upd_same, take_step eu, List.map_append]; rfl
  · rintro H' ⟨s2, hD2⟩
    rw [hkl, List.take_length] at hD2
    have sA := s1.trans s2
    have ha2 := sA _ _ ha
    refine ⟨_, rfl, a, _, 0, _, rfl, rfl, SqT.of ha2, atI_0 _ _, rfl, _, rfl, ?_⟩
    cases t with
    | fx b => cases many
    | ct i => cases many
    | nt t =>
      rw [show decide (V.str (Tl.nt t).kd.word = V.str "not") = true from decide_eq_true rfl]
      exact ⟨_, rfl, D, _, 0, .bl (t.ev x), rfl, rfl, SqL.of hD2, rfl, _, rfl, q H' sA⟩
    | gr b ts =>
      cases b with
      | true =>
        rw [show decide (V.str (Tl.gr true ts).kd.word = V.str "not") = false from decide_eq_false (by decide +kernel : ¬ V.str Kd.se.word = V.str "not")]
        refine ⟨_, rfl, a, _, 0, _, rfl, rfl, SqT.of ha2, atI_0 _ _, rfl, _, rfl, ?_⟩
        rw [show decide (V.str (Tl.gr true ts).kd.word = V.str "and") = true from decide_eq_true rfl]
        refine ⟨_, rfl, D, _, rfl, .inl (SqL.of hD2), rfl, flat_bls x _, ?_⟩
        show Q (.bl (!inV (.bl false) (ts.map fun u => V.bl (u.ev x)))) H'
        rw [all_in]
        exact q H' sA
      | false =>
        rw [show decide (V.str (Tl.gr false ts).kd.word = V.str "not") = false from decide_eq_false (by decide +kernel : ¬ V.str Kd.br.word = V.str "not")]
        refine ⟨_, rfl, a, _, 0, _, rfl, rfl, SqT.of ha2, atI_0 _ _, rfl, _, rfl, ?_⟩
        rw [show decide (V.str (Tl.gr false ts).kd.word = V.str "and") = false from decide_eq_false (by decide +kernel : ¬ V.str Kd.br.word = V.str "and")]
        refine ⟨_, rfl, D, _, rfl, .inl (SqL.of hD2), rfl, flat_bls x _, ?_⟩
        show Q (.bl (inV (.bl true) (ts.map fun u => V.bl (u.ev x)))) H'
        rw [any_in]
        exact q H' sA
theorem ok_holds (TL : TxtL K mg) : ∀ d, Cal P w K mg base (d + 1) "_law_holds" (spHolds nm d)
  | 0 => DefAt.never TL.holds sc_holds fun vs H Q E ⟨v, R, t, x, _, _, hd, _⟩ => by have := t.depth_pos; omega
  | d + 1 => holds_step TL (ok_holds TL d)
/-! ### row -/
def spRow (nm : List Str) : Sp := fun vs H Q _ => ∃ (l : Addr) (n : Int), vs = [.ref l, .int n] ∧ H l = some (.lst (nm.map V.str)) ∧ nm.Nodup ∧ nm.length ≤ 6 ∧ ∀ H' R x, Same H H' → RowAt nm H' R x → Q (.ref R) H'
theorem sc_row : FnScope ["_law_names_here", "_law_number", "_law_row_here", "_law_name"] ["_law_names_here", "_law_number"] (defScope sRow) := ⟨rfl, rfl, rfl, by decide +kernel, rfl, by decide +kernel, by decide +kernel⟩
theorem ok_row (TL : TxtL K mg) : Cal P w K mg base 1 "_law_row" (spRow nm) := by
  refine TL.row.ok sc_row (fun vs H Q E h => ?_) fun f cdv _ outer s H vs Q E hr h => ?_
  · obtain ⟨l, n, rfl, _⟩ := h; rfl
  obtain ⟨l, n, rfl, hl, nodup, few, q⟩ := h
  have nd := sc_row.nd
  refine ⟨_, pss_cons (ps_set (i := 2) nd rfl (Or.inl rfl) pe_dnewK)
    (pss_cons (ps_for PassesOwn.never rfl (pi_list (pv 0)) (pg_name (i := 3) nd rfl (Or.inl rfl))
      (pss_cons (ps_dput (hu_of hr) (pv 2) (pv 3) (pe_cmpR op_eq (pe_op op_mod (pv 1) pe_int) pe_int (nomark _)) rfl) (pss_one (ps_set (i := 1) nd rfl (Or.inl rfl) (pe_op op_fdiv (pv 1) pe_int)))))
    (pss_one (ps_ret (pv 2)))), ?_⟩
  intro R hRn
  have s0 := same_new hRn (.dK [])
  refine ⟨_, rfl, l, rfl, ⟨_, SqL.of (s0 _ _ hl)⟩, for_list (K := K) (a := l) (xs := nm.map V.str) (fun i σ H' => Same H H' ∧ ∃ (n' : Int) (o : Option V) (kvs : List (Key × V)) (x : Row), σ = [some (.ref l), some (.int n'), some (.ref R), o] ∧ H' R = some (.dK kvs) ∧ kvs.length ≤ i ∧ ∀ (j : Nat) z, j < i → nm[j]? = some z → valV kvs (Sum.inr z) = some (.bl (x j)))
    ⟨s0, n, none, [], fun _ => false, rfl, upd_same, Nat.zero_le _, fun j z h => absurd h (Nat.not_lt_zero _)⟩ (fun i σ H' _ h => SqL.of (h.1 _ _ hl)) ?_ ?_⟩
  · rintro i y σ H' ey ⟨s1, n', o, kvs, x, rfl, hk, kl, hx⟩
    rw [List.getElem?_map] at ey
    obtain ⟨z, hz, rfl⟩ := Option.map_eq_some_iff.mp ey
    have li := (List.getElem?_eq_some_iff.mp hz).1
    refine ⟨_, rfl, _, _, rfl, rfl, (by show (0 : Int) < 2; decide), rfl, _, rfl, _, rfl, R, _, rfl, DPut.k (k := Sum.inr z) hk (L2.small1000 (by omega)), ?_⟩
    refine ⟨_, rfl, _, _, rfl, rfl, ⟨by decide, by decide⟩, fun b u e => ?_, _, _, _, fun j => if j = i then decide (V.int (n' % 2) = V.int 1) else x j, rfl, upd_same, ?_, fun j u hj hu => ?_⟩
    · rw [upd_ne (ne_of_none e hRn)]; exact s1 _ _ e
    · exact Nat.le_trans (len_putK _ _ _) (by omega)
    · rw [valV_put]
      by_cases ej : j = i
      · subst ej
        rw [hz] at hu
        cases hu
        rw [if_pos rfl]
        show some (V.bl _) = some (V.bl (if j = j then _ else x j))
        rw [if_pos rfl]
      · have ne : ¬ (Sum.inr u : Key) = Sum.inr z := fun e => by
          obtain ⟨g1, e1⟩ := List.getElem?_eq_some_iff.mp hu
          obtain ⟨g2, e2⟩ := List.getElem?_eq_some_iff.mp hz
          have : u = z := Sum.inr.inj e
          exact ej ((List.getElem_inj nodup).mp (e1.trans (this.trans e2.symm)))
        rw [if_neg ne]
        show _ = some (V.bl (if j = i then _ else x j))
        rw [if_neg ej]
        exact hx j u (by omega) hu
  · rintro σ H' ⟨s1, n', o, kvs, x, rfl, hk, kl, hx⟩
    refine ⟨_, rfl, q H' R x s1 ⟨kvs, hk, fun i z hz => hx i z ?_ hz⟩⟩
    rw [List.length_map]
    exact (List.getElem?_eq_some_iff.mp hz).1
/-! ### down, whole -/
def spDown (cS : Addr) (nm : List Str) : Sp := fun vs H Q _ => ∃ (A : Ad) (ns : List Nd) (n : Nat) (R : Addr) (x : Row), vs = [.ref A.s, .int (n : Nat), .ref R] ∧ Sh cS H A nm ns ∧ Good nm.length ns ∧ n < ns.length + 2 ∧ RowAt nm H R x ∧ Q (.bl (den ns n x)) H
theorem sc_down : FnScope ["_law_sheet", "_law_node", "_law_row_here", "_law_place", "_law_low", "_law_high"] ["_law_sheet", "_law_node", "_law_row_here"] (defScope sDown) := ⟨rfl, rfl, rfl, by decide +kernel, rfl, by decide +kernel, by decide +kernel⟩
theorem ok_down (TP : TxtP K mg cl) (TS : TxtS K mg cS) (TL : TxtL K mg) : Cal P w K mg base 3 "_law_down" (spDown cS nm) := by
  refine TL.down.ok sc_down (fun vs H Q E h => ?_) fun f cdv _ outer s H vs Q E hr h => ?_
  · obtain ⟨A, ns, n, R, x, rfl, _⟩ := h; rfl
  obtain ⟨A, ns, n, R, x, rfl, S, G, ln, hR, q⟩ := h
  obtain ⟨dx, ob⟩ := S.ob
  have nd := sc_down.nd
  refine ⟨_, pss_cons (ps_while PassesOwn.never (pt_cmpR op_gt (pv 1) pe_int (nomark _))
      (pss_cons (ps_asg (qm (ok_shown (nm := nm) TP TS) hr (Nat.le_refl _) (pv 0) (pa_cons (pv 1) pa_nil)) (pg_tup rfl (pgs_cons (pg_name (i := 3) nd rfl (Or.inl rfl)) (pgs_cons (pg_name (i := 4) nd rfl (Or.inl rfl)) (pgs_cons (pg_name (i := 5) nd rfl (Or.inl rfl)) pgs_nil)))))
      (pss_cons (ps_set (i := 1) nd rfl (Or.inl rfl) (pv 4))
      (pss_one (ps_if (pt_val (pe_dget (hu_of hr) (pv 2) (pe_ix ix_tup (pe_fld (pv 0) rfl) (pv 3) (fun _ _ => rfl)) (fun _ _ => rfl))) (pss_one (ps_set (i := 1) nd rfl (Or.inl rfl) (pv 5))) pss_nil)))))
    (pss_one (ps_ret (pe_cmpR op_eq (pv 1) pe_int (nomark _)))), ?_⟩
  refine ⟨fun m σ H' => H' = H ∧ ∃ (k : Nat) (o3 o4 o5 : Option V), m = k ∧ σ = [some (.ref A.s), some (.int (k : Nat)), some (.ref R), o3, o4, o5] ∧ k < ns.length + 2 ∧ den ns k x = den ns n x, ⟨n, rfl, n, none, none, none, rfl, rfl, ln, rfl⟩, ?_⟩
  rintro m σ H' ⟨rfl, k, o3, o4, o5, rfl, rfl, lk, dk⟩
  refine ⟨_, rfl, _, _, rfl, rfl, _, rfl, ?_⟩
  rcases node_cases lk with e | e | ⟨i, p, l, h, e, en⟩
  · subst e
    refine ⟨_, rfl, rfl, ?_⟩
    rw [← dk, den_0] at q
    exact q
  · subst e
    refine ⟨_, rfl, rfl, ?_⟩
    rw [← dk, den_1] at q
    exact q
  · subst e
    rw [decide_eq_true (by omega : (1 : Int) < ((i + 2 : Nat) : Int))]
    obtain ⟨pm, li, hi, _, _, _⟩ := G.ok i p l h en
    obtain ⟨kvs, hk, hx⟩ := hR
    obtain ⟨z, hz⟩ : ∃ z, nm[p]? = some z := ⟨_, List.getElem?_eq_getElem pm⟩
    refine ⟨_, fun σ' H' h => h, ?_⟩
    refine ⟨_, rfl, A.s, dx, _, rfl, ob, ng (by decide +kernel), _, rfl, A, ns, i, (p, l, h), rfl, S, en, fun r hr2 => ?_⟩
    refine ⟨r, _, rfl, SqT.of hr2, rfl, _, _, rfl, _, _, rfl, _, _, rfl, rfl, _, rfl, ?_⟩
    refine ⟨_, rfl, _, rfl, A.s, _, dx, _, _, rfl, ob, TS.cls, TS.nM, lkM A, _, rfl, A.n, _, _, .str z, rfl, rfl, S.sq, atI_of (j := p) rfl (by rw [List.getElem?_map, hz]; rfl), R, .bl (x p), rfl, ?_, _, rfl, ?_⟩
    · rw [← hx p z hz]; exact DGet.k (k := Sum.inr z) hk
    · have den1 := den_at G en x
      refine ite2 (fun c => ?_) (fun c => ?_)
      · rw [if_pos c] at den1
        exact ⟨_, rfl, h, by omega, rfl, h, _, _, _, rfl, rfl, by omega, by rw [← dk, den1]⟩
      · rw [if_neg c] at den1
        exact ⟨l, by omega, rfl, l, _, _, _, rfl, rfl, by omega, by rw [← dk, den1]⟩
def spWhole : Sp := fun vs H Q _ => ∃ n : Int, vs = [.int n] ∧ Q (.bl true) H
theorem sc_whole : FnScope ["_law_found"] ["_law_found"] (defScope sWhole) := ⟨rfl, rfl, rfl, by decide +kernel, rfl, by decide +kernel, by decide +kernel⟩
theorem ok_whole (TP : TxtP K mg cl) (TL : TxtL K mg) : Cal P w K mg base 1 "_law_whole" spWhole := by
  refine TL.whole.ok sc_whole (fun vs H Q E h => ?_) fun f cdv _ outer s H vs Q E hr h => ?_
  · obtain ⟨n, rfl, _⟩ := h; rfl
  obtain ⟨n, rfl, q⟩ := h
  have ki : PySem.W.kitOne K (.type "int") (.type "int") = some true := kit_ty (by decide +kernel)
  have kb : PySem.W.kitOne K (.type "int") (.type "bool") = some false := kit_ty (by decide +kernel)
  refine ⟨_, pss_one (ps_ret (pe_and (pe_callB call_isi (by rfl) TP.isi boot_isi (pa_cons (pv 0) (pa_cons (pe_bltn (v := .ty "int") (by rfl) TP.int boot_int' rfl) pa_nil)))
    (pe_one (pe_not (pe_callB call_isi (by rfl) TP.isi boot_isi (pa_cons (pv 0) (pa_cons (pe_bltn (v := .ty "bool") (by rfl) TP.bool boot_bool' rfl) pa_nil))))))), ?_⟩
  refine ⟨_, rfl, _, _, _, _, _, rfl, .ty _, .base (.int _), ki, _, rfl, ?_⟩
  exact ⟨_, rfl, _, _, _, _, _, rfl, .ty _, .base (.int _), kb, _, rfl, q⟩
end
end Rw

set_option Elab.async false
set_option linter.all false
set_option maxRecDepth 100000
set_option maxHeartbeats 4000000
/-! The law. -/
namespace Rw
open PySem PySem.Spec PyProof.Rows L2
/-- one of several readings of a run of statements -/
def ssExs {ι : Type} (t : ι → TS) : TS := fun D σ H => ∃ i, t i D σ H
theorem pss_exs {X : Cx} {ι : Type} {l : List Stmt} {t : ι → TS} (h : ∀ i, PSs X l (t i)) : PSs X l (ssExs t) :=
  ⟨fun pins s σ H D I ⟨i, q⟩ => (h i).run pins s σ H D I q⟩
theorem eq_ints (a b c : Int) : PyData.eqv (.list [.int a, .int b, .int c]) (.list [.int a, .int b, .int c]) = true := by
  show ((a == a) && ((b == b) && ((c == c) && true))) = true
  rw [beq_self_eq_true, beq_self_eq_true, beq_self_eq_true]; rfl
theorem eq_bls3 (a b c : Bool) : PyData.eqv (.list [.bool a, .bool b, .bool c]) (.list [.bool a, .bool b, .bool c]) = true := by
  cases a <;> cases b <;> cases c <;> rfl
theorem eq_bls2 (a b : Bool) : PyData.eqv (.list [.bool a, .bool b]) (.list [.bool a, .bool b]) = true := by
  cases a <;> cases b <;> rfl
section
variable {P : Program} {w : World} {K : PySem.W.Frag} {mg : Str → Option Value} {base : Heap} {cl : Kd → Addr} {nm : List Str} {cS : Addr}
theorem dp3 {H : Hp} {a : Addr} {i j k : Int} (h : H a = some (.lst [.int i, .int j, .int k])) : Dp K H (.ref a) (.list [.int i, .int j, .int k]) := .lst (SqL.of h) (.cons (.int _) (.cons (.int _) (.cons (.int _) .nil)))
theorem dpb3 {H : Hp} {a : Addr} {i j k : Bool} (h : H a = some (.lst [.bl i, .bl j, .bl k])) : Dp K H (.ref a) (.list [.bool i, .bool j, .bool k]) := .lst (SqL.of h) (.cons (.bl _) (.cons (.bl _) (.cons (.bl _) .nil)))
theorem dpb2 {H : Hp} {a : Addr} {i j : Bool} (h : H a = some (.lst [.bl i, .bl j])) : Dp K H (.ref a) (.list [.bool i, .bool j]) := .lst (SqL.of h) (.cons (.bl _) (.cons (.bl _) .nil))
theorem ops_to {t : Tl} {n : Nat} (h : t.size ≤ n) : 7 * t.ops + 7 ≤ 14 * n := by have := t.ops_le; omega
theorem cnt_0 (m : Nat) : cnt m [] = 0 := rfl
def spLaw (K : PySem.W.Frag) : Sp := fun vs H Q _ => ∃ (a : Addr) (zs : List Int), vs = [.ref a] ∧ SqL K H a (zs.map V.int) ∧ zs.length ≤ 63 ∧ ∀ H', Q (.bl true) H'
theorem sc_law : FnScope ["_law_script", "_law_names_here", "_law_one", "_law_other", "_law_sheet", "_law_first", "_law_second", "_law_third", "_law_found", "_law_more", "_law_number", "_law_row_here", "_law_here", "_law_there", "_law_due", "_law_parts", "_law_again", "_law_node"] ["_law_script"] (defScope sLaw) := ⟨rfl, rfl, rfl, by decide +kernel, rfl, by decide +kernel, by decide +kernel⟩
theorem pow_at {n : Nat} (h1 : 0 < n) (h6 : n ≤ 6) : ∃ z : Int, atI [V.int 1, V.int 2, V.int 4, V.int 8, V.int 16, V.int 32, V.int 64] (n : Int) = some (.int z) ∧ 0 ≤ z ∧ z ≤ 64 := by
  have : n = 1 ∨ n = 2 ∨ n = 3 ∨ n = 4 ∨ n = 5 ∨ n = 6 := by omega
  rcases this with rfl | rfl | rfl | rfl | rfl | rfl
  · exact ⟨2, rfl, by decide, by decide⟩
  · exact ⟨4, rfl, by decide, by decide⟩
  · exact ⟨8, rfl, by decide, by decide⟩
  · exact ⟨16, rfl, by decide, by decide⟩
  · exact ⟨32, rfl, by decide, by decide⟩
  · exact ⟨64, rfl, by decide, by decide⟩
theorem ok_law (TP : TxtP K mg cl) (TS : TxtS K mg cS) (TL : TxtL K mg) {f : Addr} {fd : FuncData} (F : Fun K "law" "law" sLaw f fd) : FnOk P w K mg base CX0 31 f fd ["_law_script"] (spLaw K) := by
  refine F.ok sc_law (fun vs H Q E h => ?_) fun cdv _ outer s H vs Q E hr h => ?_
  · obtain ⟨a, zs, rfl, _⟩ := h; rfl
  obtain ⟨a, zs, rfl, hq, h63, q⟩ := h
  have nd := sc_law.nd
  refine ⟨_, pss_cons (ps_set (i := 1) nd rfl (Or.inl rfl) (qc (ok_names TP TL) hr (by decide) (pa_cons (qc (ok_cell TP TL) hr (by decide) (pa_cons (pv 0) (pa_cons pe_int pa_nil))) (pa_cons (pe_op op_add pe_int (pe_op op_mod (qc (ok_cell TP TL) hr (by decide) (pa_cons (pv 0) (pa_cons pe_int pa_nil))) pe_int)) pa_nil))))
    (pss_exs fun nm : List Str => pss_cons (ps_set (i := 2) nd rfl (Or.inl rfl) (qc (ok_toldBy (nm := nm) TP TL) hr (by decide) (pa_cons (pv 0) (pa_cons pe_int (pa_cons (pe_op op_mod (qc (ok_cell TP TL) hr (by decide) (pa_cons (pv 0) (pa_cons pe_int pa_nil))) pe_int) (pa_cons (pv 1) pa_nil))))))
    (pss_cons (ps_set (i := 3) nd rfl (Or.inl rfl) (qc (ok_toldBy (nm := nm) TP TL) hr (by decide) (pa_cons (pv 0) (pa_cons pe_int (pa_cons (pe_op op_mod (qc (ok_cell TP TL) hr (by decide) (pa_cons (pv 0) (pa_cons pe_int pa_nil))) pe_int) (pa_cons (pv 1) pa_nil))))))
    (pss_mid (ps_if (pt_cmpR op_eq (pe_op op_mod (qc (ok_cell TP TL) hr (by decide) (pa_cons (pv 0) (pa_cons pe_int pa_nil))) pe_int) pe_int (nomark _)) (pss_one (ps_set (i := 3) nd rfl (Or.inl rfl) (pe_ix ix_list (pe_lst (pa_cons (pv 2) (pa_cons (pe_tup (pa_cons pe_str (pa_cons (pv 2) pa_nil))) pa_nil))) (pe_op op_mod (pe_op op_fdiv (qc (ok_cell TP TL) hr (by decide) (pa_cons (pv 0) (pa_cons pe_int pa_nil))) pe_int) pe_int) (fun _ _ => rfl)))) pss_nil)
    (pss_cons (ps_set (i := 4) nd rfl (Or.inr rfl) (qmk (ok_shInit TP TS) hr (by decide) (pa_cons (pv 1) pa_nil)))
    (pss_cons (ps_set (i := 5) nd rfl (Or.inl rfl) (qm (ok_node (nm := nm) TP TS) hr (by decide) (pv 4) (pa_cons (qc (ok_partOf (nm := nm) TP) hr (by decide) (pa_cons (pv 2) pa_nil)) pa_nil)))
    (pss_cons (ps_set (i := 6) nd rfl (Or.inl rfl) (qm (ok_node (nm := nm) TP TS) hr (by decide) (pv 4) (pa_cons (qc (ok_partOf (nm := nm) TP) hr (by decide) (pa_cons (pv 3) pa_nil)) pa_nil)))
    (pss_cons (ps_set (i := 7) nd rfl (Or.inl rfl) (qm (ok_node (nm := nm) TP TS) hr (by decide) (pv 4) (pa_cons (qc (ok_partOf (nm := nm) TP) hr (by decide) (pa_cons (pe_tup (pa_cons pe_str (pa_cons (pe_ix ix_list (pv 1) pe_int (fun _ _ => rfl)) pa_nil))) pa_nil)) pa_nil)))
    (pss_cons (ps_set (i := 8) nd rfl (Or.inl rfl) (pe_lst (pa_cons (qm (ok_both (nm := nm) TP TS) hr (by decide) (pv 4) (pa_cons (pv 5) (pa_cons (pv 6) pa_nil))) (pa_cons (qm (ok_either (nm := nm) TP TS) hr (by decide) (pv 4) (pa_cons (pv 5) (pa_cons (pv 6) pa_nil))) (pa_cons (qm (ok_turned (nm := nm) TP TS) hr (by decide) (pv 4) (pa_cons (pv 5) pa_nil)) pa_nil)))))
    (pss_cons (ps_set (i := 9) nd rfl (Or.inl rfl) (pe_lst (pa_cons (qm (ok_both (nm := nm) TP TS) hr (by decide) (pv 4) (pa_cons (pv 5) (pa_cons (pv 7) pa_nil))) (pa_cons (qm (ok_either (nm := nm) TP TS) hr (by decide) (pv 4) (pa_cons (pv 5) (pa_cons (pv 7) pa_nil))) pa_nil))))
    (pss_cons (ps_for PassesOwn.never rfl (pi_range1 (by rfl) TP.range (pa_cons (pe_ix ix_list (pe_lst (pa_cons pe_int (pa_cons pe_int (pa_cons pe_int (pa_cons pe_int (pa_cons pe_int (pa_cons pe_int (pa_cons pe_int pa_nil)))))))) (pe_callB call_len_seq (by rfl) TP.len PySem.boot_len (pa_cons (pv 1) pa_nil)) (fun _ _ => rfl)) pa_nil)) (pg_name (i := 10) nd rfl (Or.inl rfl))
      (pss_cons (ps_set (i := 11) nd rfl (Or.inr rfl) (qc (ok_row (nm := nm) TL) hr (by decide) (pa_cons (pv 1) (pa_cons (pv 10) pa_nil))))
      (pss_cons (ps_set (i := 12) nd rfl (Or.inl rfl) (qc (ok_holds (nm := nm) TL 14) hr (by decide) (pa_cons (pv 2) (pa_cons (pv 11) pa_nil))))
      (pss_cons (ps_set (i := 13) nd rfl (Or.inl rfl) (qc (ok_holds (nm := nm) TL 14) hr (by decide) (pa_cons (pv 3) (pa_cons (pv 11) pa_nil))))
      (pss_mid (ps_set (i := 14) nd rfl (Or.inl rfl) (pe_lst (pa_cons (pe_and (pv 12) (pe_one (pv 13))) (pa_cons (pe_or (pv 12) (pe_one (pv 13))) (pa_cons (pe_not (pv 12)) pa_nil)))))
      (pss_cons (ps_if (pt_cmpR (op_neD hr.units) (pe_lc (own := [("_law_node", 17)]) (g := gName 17) (tt := tYes) (by rfl) nd (pi_list (pv 8))
          (blkOk_by (own := [("_law_node", 17)]) (N := ["_law_script", "_law_names_here", "_law_one", "_law_other", "_law_sheet", "_law_first", "_law_second", "_law_third", "_law_found", "_law_more", "_law_number", "_law_row_here", "_law_here", "_law_there", "_law_due", "_law_parts", "_law_again", "_law_node"]) (sc := defScope sLaw) (by decide +kernel)) (fun _ _ _ _ _ => pg_name (i := 17) nd rfl (Or.inl rfl)) (fun _ _ _ _ _ => pts_nil)
          (fun _ _ _ _ _ => qc (ok_down (nm := nm) TP TS TL) hr (by decide) (pa_cons (pv 4) (pa_cons (pv 17) (pa_cons (pv 11) pa_nil))))) (pv 14) (nomark _)) (pss_one (ps_ret pe_bl)) pss_nil)
      (pss_one (ps_if (pt_cmpR (op_neD hr.units) (pe_lc (own := [("_law_node", 17)]) (g := gName 17) (tt := tYes) (by rfl) nd (pi_list (pv 9))
          (blkOk_by (own := [("_law_node", 17)]) (N := ["_law_script", "_law_names_here", "_law_one", "_law_other", "_law_sheet", "_law_first", "_law_second", "_law_third", "_law_found", "_law_more", "_law_number", "_law_row_here", "_law_here", "_law_there", "_law_due", "_law_parts", "_law_again", "_law_node"]) (sc := defScope sLaw) (by decide +kernel)) (fun _ _ _ _ _ => pg_name (i := 17) nd rfl (Or.inl rfl)) (fun _ _ _ _ _ => pts_nil)
          (fun _ _ _ _ _ => qc (ok_down (nm := nm) TP TS TL) hr (by decide) (pa_cons (pv 4) (pa_cons (pv 17) (pa_cons (pv 11) pa_nil)))))
          (pe_lst (pa_cons (pe_and (pv 12) (pe_one (pe_dget (hu_of hr) (pv 11) (pe_ix ix_list (pv 1) pe_int (fun _ _ => rfl)) (fun _ _ => rfl)))) (pa_cons (pe_or (pv 12) (pe_one (pe_dget (hu_of hr) (pv 11) (pe_ix ix_list (pv 1) pe_int (fun _ _ => rfl)) (fun _ _ => rfl)))) pa_nil))) (nomark _)) (pss_one (ps_ret pe_bl)) pss_nil))))))))
    (pss_cons (ps_set (i := 15) nd rfl (Or.inl rfl) (pe_lst (pa_cons (qc (ok_partOf (nm := nm) TP) hr (by decide) (pa_cons (pv 2) pa_nil)) (pa_cons (qc (ok_partOf (nm := nm) TP) hr (by decide) (pa_cons (pv 3) pa_nil)) pa_nil))))
    (pss_cons (ps_if (pt_cmpR (op_neD hr.units) (pe_lst (pa_cons (qm (ok_node (nm := nm) TP TS) hr (by decide) (pv 4) (pa_cons (qmk (ok_se (nm := nm) TP) hr (by decide) (pa_cons (pv 15) pa_nil)) pa_nil))
        (pa_cons (qm (ok_node (nm := nm) TP TS) hr (by decide) (pv 4) (pa_cons (qmk (ok_br (nm := nm) TP) hr (by decide) (pa_cons (pv 15) pa_nil)) pa_nil))
        (pa_cons (qm (ok_node (nm := nm) TP TS) hr (by decide) (pv 4) (pa_cons (qmk (ok_nt (nm := nm) TP) hr (by decide) (pa_cons (pe_ix ix_list (pv 15) pe_int (fun _ _ => rfl)) pa_nil)) pa_nil)) pa_nil)))) (pv 8) (nomark _)) (pss_one (ps_ret pe_bl)) pss_nil)
    (pss_cons (ps_if (pt_cmpR (op_neNil hr.units0) (pe_lc (own := [("_law_node", 17)]) (g := gName 17) (by rfl) nd (pi_list (pv 8))
          (blkOk_by (own := [("_law_node", 17)]) (N := ["_law_script", "_law_names_here", "_law_one", "_law_other", "_law_sheet", "_law_first", "_law_second", "_law_third", "_law_found", "_law_more", "_law_number", "_law_row_here", "_law_here", "_law_there", "_law_due", "_law_parts", "_law_again", "_law_node"]) (sc := defScope sLaw) (by decide +kernel)) (fun _ _ _ _ _ => pg_name (i := 17) nd rfl (Or.inl rfl))
          (fun _ _ _ _ _ => pts_one (pt_not (pt_val (qc (ok_whole TP TL) hr (by decide) (pa_cons (pv 17) pa_nil))))) (fun _ _ _ _ _ => pv 17)) (pe_lst pa_nil) (nomark _)) (pss_one (ps_ret pe_bl)) pss_nil)
    (pss_cons (ps_set (i := 16) nd rfl (Or.inl rfl) (pe_lst (pa_cons (qm (ok_both (nm := nm) TP TS) hr (by decide) (pv 4) (pa_cons (pv 6) (pa_cons (pv 5) pa_nil))) (pa_cons (qm (ok_either (nm := nm) TP TS) hr (by decide) (pv 4) (pa_cons (pv 6) (pa_cons (pv 5) pa_nil))) (pa_cons (qm (ok_turned (nm := nm) TP TS) hr (by decide) (pv 4) (pa_cons (pv 5) pa_nil)) pa_nil)))))
    (pss_one (ps_ret (pe_and (pe_cmpR (op_eqD hr.units) (pv 16) (pv 8) (nomark _)) (pe_one (pe_cmpR op_eq (qm (ok_turned (nm := nm) TP TS) hr (by decide) (pv 4) (pa_cons (qm (ok_turned (nm := nm) TP TS) hr (by decide) (pv 4) (pa_cons (pv 6) pa_nil)) pa_nil)) (pv 6) (nomark _)))))))))))))))))))), ?_⟩
  have r1 := fun z : Int => Int.emod_nonneg z (by decide : (6 : Int) ≠ 0)
  have r2 := fun z : Int => Int.emod_lt_of_pos z (by decide : (0 : Int) < 6)
  refine ⟨_, rfl, a, zs, _, rfl, hq, h63, by decide, fun c0 => ⟨_, rfl, a, zs, _, rfl, hq, h63, by decide, fun c1 => ⟨_, _, rfl, rfl, (by show (0 : Int) < 6; decide), _, _, rfl, rfl, ?_⟩⟩⟩
  have a0 := r1 c1
  have a1 := r2 c1
  refine ⟨c0, (1 + c1 % 6).toNat, (by show [V.int c0, V.int (1 + c1 % 6)] = [V.int c0, V.int (((1 + c1 % 6).toNat : Nat) : Int)]; rw [Int.toNat_of_nonneg (by omega)]), by omega, by omega, fun H1 L nm s1 _ hL hn lm => ⟨nm, ?_⟩⟩
  have npos := hn.pos
  refine ⟨_, rfl, _, rfl, a, zs, _, rfl, s1.seq hq, h63, by decide, fun c2 => ⟨_, _, rfl, rfl, (by show (0 : Int) < 12; decide), _, rfl, ?_⟩⟩
  refine ⟨a, L, zs, _, _, rfl, s1.seq hq, h63, by decide, Int.emod_nonneg _ (by decide), Int.le_of_lt_add_one (Int.emod_lt_of_pos _ (by decide)), hL, npos, fun H2 v1 t1 s2 told1 wf1 z1 => ?_⟩
  have s12 := s1.trans s2
  refine ⟨_, rfl, _, rfl, a, zs, _, rfl, s12.seq hq, h63, by decide, fun c3 => ⟨_, _, rfl, rfl, (by show (0 : Int) < 12; decide), _, rfl, ?_⟩⟩
  refine ⟨a, L, zs, _, _, rfl, s12.seq hq, h63, by decide, Int.emod_nonneg _ (by decide), Int.le_of_lt_add_one (Int.emod_lt_of_pos _ (by decide)), s2 _ _ hL, npos, fun H3 v2 t2 s3 told2 wf2 z2 => ?_⟩
  have s123 := s12.trans s3
  have told1' := told1.ext (S := []) (.same s3)
  have hL3 := s3 _ _ (s2 _ _ hL)
  refine ⟨fun σ' H' => ∃ v2 t2, σ' = [some (.ref a), some (.ref L), some v1, some v2, none, none, none, none, none, none, none, none, none, none, none, none, none, none] ∧ ToldAt nm H' v1 t1 ∧ ToldAt nm H' v2 t2 ∧ t2.wf nm.length ∧ t2.size ≤ 13 ∧ H' L = some (.lst (nm.map V.str)), ?_, ?_⟩
  · refine ⟨_, rfl, a, zs, _, rfl, s123.seq hq, h63, by decide, fun c4 => ⟨_, _, rfl, rfl, (by show (0 : Int) < 5; decide), rfl, _, rfl, ?_⟩⟩
    refine ite2 (fun e => ?_) (fun e => ⟨v2, t2, rfl, told1', told2, wf2, by omega, hL3⟩)
    refine ⟨_, rfl, _, rfl, (by show 2 ≤ sizeLine; decide), fun x hx => ⟨(by show 2 ≤ sizeLine; decide), fun y hy => ?_⟩⟩
    have s4 := same_new hx (.tup [.str "not", v1])
    have s5 := same_new hy (.lst [v1, .ref x])
    have s45 := s4.trans s5
    refine ⟨_, rfl, a, zs, _, rfl, (s123.trans s45).seq hq, h63, by decide, fun c5 => ⟨_, _, rfl, rfl, ⟨by decide, by decide⟩, _, _, rfl, rfl, (by show (0 : Int) < 2; decide), ?_⟩⟩
    have b0 := Int.emod_nonneg (c5 / 5) (by decide : (2 : Int) ≠ 0)
    have b1 := Int.emod_lt_of_pos (c5 / 5) (by decide : (0 : Int) < 2)
    have told1'' := told1'.ext (S := []) (.same s45)
    have hL5 := s45 _ _ hL3
    have : c5 / 5 % 2 = 0 ∨ c5 / 5 % 2 = 1 := by omega
    rcases this with e | e
    · refine ⟨y, _, _, v1, rfl, rfl, SqL.of upd_same, (by rw [e]; rfl), v1, t1, rfl, told1'', told1'', wf1, by omega, hL5⟩
    · refine ⟨y, _, _, .ref x, rfl, rfl, SqL.of upd_same, (by rw [e]; rfl), .ref x, .nt t1, rfl, told1'', ⟨x, v1, rfl, s5 _ _ upd_same, told1''⟩, wf1, ?_, hL5⟩
      show 1 + t1.size ≤ 13
      omega
  clear told2 wf2 z2 told1' hL3 v2 t2
  rintro σ' H4 ⟨v2, t2, rfl, told1, told2, wf2, z2, hL4⟩
  -- the sheet
  refine ⟨_, rfl, fun x dx nx nd' ne => ?_⟩
  have new0 : Same H4 (upd (upd H4 dx (.own x)) x (.ins cS dx [])) := fun b o e => by
    rw [upd_ne (ne_of_none e nx), upd_ne (ne_of_none e nd')]; exact e
  refine ⟨x, dx, L, nm, rfl, new0 _ _ hL4, hn, upd_same, fun H5 A eA S5 mk nl nd5 => ⟨rfl, ?_⟩⟩
  have s5 := same_made nx nd' mk
  subst eA
  have told1 := told1.ext (S := []) (.same s5)
  have told2 := told2.ext (S := []) (.same s5)
  have hL5 := s5 _ _ hL4
  have Ll : L ≠ A.l := ne_of_none (new0 _ _ hL4) nl
  have Ld : L ≠ A.d := ne_of_none (new0 _ _ hL4) nd5
  have G5 := good_nil nm.length
  have o1 := ops_to z1
  have o2 := ops_to z2
  have dp1 := t1.depth_le
  have dp2 := t2.depth_le
  have c0 := cnt_0 nm.length
  clear hL4 nl nd5 mk s5
  -- first
  obtain ⟨dx5, ob5⟩ := S5.ob
  refine ⟨_, rfl, A.s, dx5, _, rfl, ob5, ng (by decide +kernel), _, rfl, v1, t1, rfl, told1, wf1, hn.one, by omega, by omega, fun H6 u1 s6 p1 => ?_⟩
  refine ⟨A, [], u1, t1, rfl, S5.same s6, G5, p1, by omega, by omega, wf1, hn, by omega, fun H7 ns7 n1 st7 l1 d1 c7 => ?_⟩
  have st57 := (Stp.of_same S5 G5 s6).trans st7
  -- second
  obtain ⟨dx7, ob7⟩ := st57.sh.ob
  refine ⟨_, rfl, A.s, dx7, _, rfl, ob7, ng (by decide +kernel), _, rfl, v2, t2, rfl, told2.ext st57.ext, wf2, hn.one, by omega, by omega, fun H8 u2 s8 p2 => ?_⟩
  refine ⟨A, ns7, u2, t2, rfl, st57.sh.same s8, st57.good, p2, by omega, by omega, wf2, hn, by omega, fun H9 ns9 n2 st9 l2 d2 c9 => ?_⟩
  have st79 := (Stp.of_same st57.sh st57.good s8).trans st9
  have st59 := st57.trans st79
  -- third
  obtain ⟨dx9, ob9⟩ := st59.sh.ob
  have Lout : ∀ {H' : Hp} {ns' : List Nd}, Stp cS [] H5 H' A nm [] ns' → H' L = some (.lst (nm.map V.str)) := fun st => st.ext.out _ _ hL5 (by simp [Ll, Ld])
  obtain ⟨x0, hx0⟩ : ∃ x0, nm[0]? = some x0 := ⟨_, List.getElem?_eq_getElem npos⟩
  have wf0 : (Tl.ct 0).wf nm.length := npos
  refine ⟨_, rfl, A.s, dx9, _, rfl, ob9, ng (by decide +kernel), _, rfl, L, _, 0, .str x0, rfl, rfl, SqL.of (Lout st59), atI_of (j := 0) rfl (by rw [List.getElem?_map, hx0]; rfl), (by show 2 ≤ sizeLine; decide), fun z hz => ?_⟩
  have sz1 := same_new hz (.tup [.str "contact", .str x0])
  refine ⟨.ref z, .ct 0, rfl, ⟨z, x0, rfl, upd_same, hx0⟩, wf0, hn.one, (by show 1 ≤ 60; decide), (by show 1 ≤ 20; decide), fun H10 u3 s10 p3 => ?_⟩
  have s910 := sz1.trans s10
  refine ⟨A, ns9, u3, .ct 0, rfl, st59.sh.same s910, st59.good, p3, (by show 1 ≤ 20; decide), (by show 1 ≤ 60; decide), wf0, hn, (by show cnt nm.length ns9 + 7 * 1 ≤ 1743; omega), fun H11 ns11 n3 st11 l3 d3 c11 => ?_⟩
  have c11 : cnt nm.length ns11 ≤ cnt nm.length ns9 + 7 * 1 := c11
  have st9b := (Stp.of_same st59.sh st59.good s910).trans st11
  have st5b := st59.trans st9b
  have few := hn.few
  have k1 := st79.len
  have k2 := st9b.len
  have e1 : ∀ x, den ns11 n1 x = t1.ev x := fun x => by rw [(st79.trans st9b).den l1, d1]
  have e2 : ∀ x, den ns11 n2 x = t2.ev x := fun x => by rw [st9b.den l2, d2]
  have e3 : ∀ x, den ns11 n3 x = x 0 := fun x => by rw [d3]; rfl
  have told1 := told1.ext st5b.ext
  have told2 := told2.ext st5b.ext
  have hL11 := Lout st5b
  have S11 := st5b.sh
  have G11 := st5b.good
  have cc : cnt nm.length ns11 ≤ 360 := by omega
  have l1 : n1 < ns11.length + 2 := by omega
  have l2 : n2 < ns11.length + 2 := by omega
  clear st5b st9b st59 st79 st57 st11 st9 st7 s910 s10 sz1 s8 s6 ob5 ob7 ob9 d1 d2 d3 c7 c9 c11 k1 k2 S5 G5 hL5 p1 p2 p3 Lout new0 hz nx nd' ne
  -- found
  obtain ⟨dx11, ob11⟩ := S11.ob
  refine ⟨_, rfl, A.s, dx11, _, rfl, ob11, ng (by decide +kernel), _, rfl, _, rfl, A, ns11, n1, n2, rfl, S11, G11, l1, l2, few, by omega, fun H12 ns12 g1 st12 m1 f1 c12 => ?_⟩
  have q12 := st12.len
  obtain ⟨dx12, ob12⟩ := st12.sh.ob
  refine ⟨_, rfl, A.s, dx12, _, rfl, ob12, ng (by decide +kernel), _, rfl, _, rfl, A, ns12, n1, n2, rfl, st12.sh, st12.good, by omega, by omega, few, by omega, fun H13 ns13 g2 st13 m2 f2 c13 => ?_⟩
  have q13 := st13.len
  have st113 := st12.trans st13
  obtain ⟨dx13, ob13⟩ := st13.sh.ob
  refine ⟨_, rfl, A.s, dx13, _, rfl, ob13, ng (by decide +kernel), _, rfl, A, ns13, n1, rfl, st13.sh, st13.good, by omega, few, by omega, fun H14 ns14 g3 st14 m3 f3 c14 => ?_⟩
  have q14 := st14.len
  have st114 := st113.trans st14
  refine ⟨(by show 3 ≤ sizeLine; decide), fun F hF => ?_⟩
  have sF := same_new hF (.lst [.int (g1 : Nat), .int (g2 : Nat), .int (g3 : Nat)])
  have F14 : upd H14 F (.lst [.int (g1 : Nat), .int (g2 : Nat), .int (g3 : Nat)]) F = some (.lst [.int (g1 : Nat), .int (g2 : Nat), .int (g3 : Nat)]) := upd_same
  have Fl : F ≠ A.l := by
    obtain ⟨rs, hl, _⟩ := st14.sh.nodes
    exact (ne_of_none hl hF).symm
  have Fd : F ≠ A.d := (ne_of_none st14.sh.dict hF).symm
  have S15 := st14.sh.same sF
  have st115 := st114.trans (Stp.of_same st14.sh st14.good sF)
  generalize upd H14 F (.lst [.int (g1 : Nat), .int (g2 : Nat), .int (g3 : Nat)]) = H15 at sF F14 S15 st115 ⊢
  -- more
  obtain ⟨dx15, ob15⟩ := S15.ob
  refine ⟨_, rfl, A.s, dx15, _, rfl, ob15, ng (by decide +kernel), _, rfl, _, rfl, A, ns14, n1, n3, rfl, S15, st14.good, by omega, by omega, few, by omega, fun H16 ns16 g4 st16 m4 f4 c16 => ?_⟩
  have q16 := st16.len
  obtain ⟨dx16, ob16⟩ := st16.sh.ob
  refine ⟨_, rfl, A.s, dx16, _, rfl, ob16, ng (by decide +kernel), _, rfl, _, rfl, A, ns16, n1, n3, rfl, st16.sh, st16.good, by omega, by omega, few, by omega, fun H17 ns17 g5 st17 m5 f5 c17 => ?_⟩
  have q17 := st17.len
  have st1517 := st16.trans st17
  have st117 := st115.trans st1517
  refine ⟨(by show 2 ≤ sizeLine; decide), fun M hM => ?_⟩
  have sM := same_new hM (.lst [.int (g4 : Nat), .int (g5 : Nat)])
  have M17 : upd H17 M (.lst [.int (g4 : Nat), .int (g5 : Nat)]) M = some (.lst [.int (g4 : Nat), .int (g5 : Nat)]) := upd_same
  have st118 := st117.trans (Stp.of_same st17.sh st17.good sM)
  have F18 : upd H17 M (.lst [.int (g4 : Nat), .int (g5 : Nat)]) F = some (.lst [.int (g1 : Nat), .int (g2 : Nat), .int (g3 : Nat)]) := sM _ _ (st1517.ext.out _ _ F14 (by simp [Fl, Fd]))
  have L18 := st118.ext.out _ _ hL11 (by simp [Ll, Ld])
  have told1 := told1.ext st118.ext
  have told2 := told2.ext st118.ext
  have S18 := st118.sh
  have G18 := st118.good
  have w1 : ∀ x, den ns17 n1 x = t1.ev x := fun x => by rw [st118.den l1, e1]
  have w2 : ∀ x, den ns17 n2 x = t2.ev x := fun x => by rw [st118.den l2, e2]
  have h1 : ∀ x, den ns17 g1 x = (t1.ev x && t2.ev x) := fun x => by
    rw [((st13.trans st14).trans ((Stp.of_same st14.sh st14.good sF).trans st1517)).den m1, f1, e1, e2]; rfl
  have h2 : ∀ x, den ns17 g2 x = (t1.ev x || t2.ev x) := fun x => by
    rw [(st14.trans ((Stp.of_same st14.sh st14.good sF).trans st1517)).den m2, f2, st12.den l1, st12.den l2, e1, e2]; rfl
  have h3 : ∀ x, den ns17 g3 x = !t1.ev x := fun x => by
    rw [st1517.den m3, f3, st113.den l1, e1]
  have h4 : ∀ x, den ns17 g4 x = (t1.ev x && x 0) := fun x => by
    rw [st17.den m4, f4, st114.den l1, st114.den l3, e1, e3]; rfl
  have h5 : ∀ x, den ns17 g5 x = (t1.ev x || x 0) := fun x => by
    rw [f5, (st115.trans st16).den l1, (st115.trans st16).den l3, e1, e3]; rfl
  have cc : cnt nm.length ns17 ≤ 400 := by omega
  have l1 : n1 < ns17.length + 2 := by omega
  have l2 : n2 < ns17.length + 2 := by omega
  have m1 : g1 < ns17.length + 2 := by omega
  have m2 : g2 < ns17.length + 2 := by omega
  have m3 : g3 < ns17.length + 2 := by omega
  have m4 : g4 < ns17.length + 2 := by omega
  clear st118 st117 st1517 st17 st16 st115 st114 st14 st113 st13 st12 q12 q13 q14 q16 q17 c12 c13 c14 c16 c17 f1 f2 f3 f4 f5 e1 e2 e3 ob11 ob12 ob13 ob15 ob16 sM sF hM hF F14 S15 hL11 S11 G11
  generalize upd H17 M (.lst [.int (g4 : Nat), .int (g5 : Nat)]) = H18 at M17 F18 L18 told1 told2 S18 ⊢
  -- the rows
  obtain ⟨pz, ez, pz0, pz1⟩ := pow_at npos few
  refine ⟨(by show 7 ≤ sizeLine; decide), fun P0 hP0 => ?_⟩
  have sP := same_new hP0 (.lst [.int 1, .int 2, .int 4, .int 8, .int 16, .int 32, .int 64])
  refine ⟨_, rfl, L, _, rfl, .inl (SqL.of (sP _ _ L18)), P0, _, _, .int pz, rfl, rfl, SqL.of upd_same, (by rw [List.length_map]; exact ez), pz, rfl, by omega, by omega, ?_⟩
  refine for_range (lo := 0) (n := pz.toNat) (fun i σ H' => Same H18 H' ∧ ∃ o10 o11 o12 o13 o14, σ = [some (.ref a), some (.ref L), some v1, some v2, some (.ref A.s), some (.int (n1 : Nat)), some (.int (n2 : Nat)), some (.int (n3 : Nat)), some (.ref F), some (.ref M), o10, o11, o12, o13, o14, none, none, none])
    ⟨sP, none, none, none, none, none, rfl⟩ ?_ ?_
  · rintro i σ HA hi ⟨sA, o10, o11, o12, o13, o14, rfl⟩
    refine ⟨_, rfl, _, rfl, L, _, rfl, sA _ _ L18, hn.nd, few, fun HB R x sB hR => ?_⟩
    have sAB := sA.trans sB
    refine ⟨_, rfl, _, rfl, v1, R, t1, x, rfl, told1.ext (S := []) (.same sAB), by omega, by omega, hR, fun HC sC => ?_⟩
    refine ⟨_, rfl, _, rfl, v2, R, t2, x, rfl, told2.ext (S := []) (.same (sAB.trans sC)), by omega, by omega, hR.same sC, fun HD sD => ?_⟩
    have sAD := sAB.trans (sC.trans sD)
    have hR := hR.same (sC.trans sD)
    refine ⟨fun σ' H' => Same HD H' ∧ ∃ W, H' W = some (.lst [.bl (t1.ev x && t2.ev x), .bl (t1.ev x || t2.ev x), .bl (!t1.ev x)]) ∧ σ' = [some (.ref a), some (.ref L), some v1, some v2, some (.ref A.s), some (.int (n1 : Nat)), some (.int (n2 : Nat)), some (.int (n3 : Nat)), some (.ref F), some (.ref M), some (.int (0 + (i : Int))), some (.ref R), some (.bl (t1.ev x)), some (.bl (t2.ev x)), some (.ref W), none, none, none], ?_, ?_⟩
    · generalize t1.ev x = b1
      generalize t2.ev x = b2
      cases b1 with
      | false => exact ⟨_, rfl, _, rfl, _, rfl, _, rfl, _, rfl, _, rfl, _, rfl, (by show 3 ≤ sizeLine; decide), fun W hW => ⟨same_new hW _, W, upd_same, rfl⟩⟩
      | true => exact ⟨_, rfl, _, rfl, _, rfl, _, rfl, _, rfl, _, rfl, _, rfl, (by show 3 ≤ sizeLine; decide), fun W hW => ⟨same_new hW _, W, upd_same, rfl⟩⟩
    rintro σ' HE ⟨sE, W, hW, rfl⟩
    have sAE := sAD.trans sE
    have hR := hR.same sE
    refine ⟨_, rfl, F, rfl, ⟨_, SqL.of (sAE _ _ F18)⟩, fun D hD => ?_⟩
    refine lc_list (K := K) (a := F) (xs := [g1, g2, g3].map fun n => V.int (n : Nat)) (fun i H' => Same HE H' ∧ H' D = some (.lst (([g1, g2, g3].take i).map fun n => V.bl (den ns17 n x)))) ⟨same_new hD _, upd_same⟩ (fun i H' _ h => SqL.of ((sAE.trans h.1) _ _ F18)) ?_ ?_
    · rintro i y H' ey ⟨s2, hD2⟩
      rw [List.getElem?_map] at ey
      obtain ⟨n, en, rfl⟩ := Option.map_eq_some_iff.mp ey
      have ln : n < ns17.length + 2 := by
        have mem := List.mem_of_getElem? en
        simp only [List.mem_cons, List.not_mem_nil, or_false] at mem
        rcases mem with e | e | e <;> rw [e] <;> assumption
      refine ⟨rfl, ?_⟩
      refine ⟨_, rfl, _, rfl, _, rfl, A, ns17, n, R, x, rfl, S18.same (sAE.trans s2), G18, ln, hR.same s2, ?_⟩
      refine ⟨_, hD2, ?_, ?_, ?_⟩
      · rw [List.length_map, List.length_take]; exact sz (Nat.le_trans (Nat.min_le_right _ _) (by show 3 ≤ 100000; decide))
      · intro c o e
        rw [upd_ne (ne_of_none e hD)]
        exact s2 _ _ e
      · rw [upd_same, take_step en, List.map_append]; rfl
    rintro H' ⟨s2, hD2⟩
    have hD3 : H' D = some (.lst [.bl (den ns17 g1 x), .bl (den ns17 g2 x), .bl (den ns17 g3 x)]) := hD2
    rw [h1, h2, h3] at hD3
    refine ⟨_, rfl, _, _, dpb3 hD3, dpb3 (s2 _ _ hW), rfl, rfl, _, rfl, ?_⟩
    rw [eq_bls3]
    have sAF := sAE.trans s2
    have hR := hR.same s2
    clear hD hD2 hD3 hW sE s2 sAE sAD sD sC sB sAB
    -- the two others
    refine ⟨_, rfl, M, rfl, ⟨_, SqL.of (sAF _ _ M17)⟩, fun D hD => ?_⟩
    refine lc_list (K := K) (a := M) (xs := [g4, g5].map fun n => V.int (n : Nat)) (fun i H'' => Same H' H'' ∧ H'' D = some (.lst (([g4, g5].take i).map fun n => V.bl (den ns17 n x)))) ⟨same_new hD _, upd_same⟩ (fun i H' _ h => SqL.of ((sAF.trans h.1) _ _ M17)) ?_ ?_
    · rintro i y H' ey ⟨s2, hD2⟩
      rw [List.getElem?_map] at ey
      obtain ⟨n, en, rfl⟩ := Option.map_eq_some_iff.mp ey
      have ln : n < ns17.length + 2 := by
        have mem := List.mem_of_getElem? en
        simp only [List.mem_cons, List.not_mem_nil, or_false] at mem
        rcases mem with e | e <;> rw [e] <;> assumption
      refine ⟨rfl, ?_⟩
      refine ⟨_, rfl, _, rfl, _, rfl, A, ns17, n, R, x, rfl, S18.same (sAF.trans s2), G18, ln, hR.same s2, ?_⟩
      refine ⟨_, hD2, ?_, ?_, ?_⟩
      · rw [List.length_map, List.length_take]; exact sz (Nat.le_trans (Nat.min_le_right _ _) (by show 2 ≤ 100000; decide))
      · intro c o e
        rw [upd_ne (ne_of_none e hD)]
        exact s2 _ _ e
      · rw [upd_same, take_step en, List.map_append]; rfl
    rintro HG ⟨s2, hD2⟩
    have hD3 : HG D = some (.lst [.bl (den ns17 g4 x), .bl (den ns17 g5 x)]) := hD2
    rw [h4, h5] at hD3
    have sAG := sAF.trans s2
    obtain ⟨kvs, hk, hv⟩ := hR.same s2
    obtain ⟨b1, eb⟩ : ∃ b, b = t1.ev x := ⟨_, rfl⟩
    rw [← eb] at hD3 ⊢
    clear eb
    cases b1 with
    | false =>
      refine ⟨_, rfl, _, rfl, _, rfl, _, rfl, _, rfl, _, rfl, L, _, 0, .str x0, rfl, rfl, SqL.of (sAG _ _ L18), atI_of (j := 0) rfl (by rw [List.getElem?_map, hx0]; rfl), R, .bl (x 0), rfl, (by rw [← hv 0 x0 hx0]; exact DGet.k (k := Sum.inr x0) hk), (by show 2 ≤ sizeLine; decide), fun Z hZ => ?_⟩
      refine ⟨_, _, dpb2 (i := false) (j := x 0) (same_new hZ _ _ _ hD3), dpb2 upd_same, rfl, rfl, _, rfl, ?_⟩
      rw [eq_bls2]
      exact ⟨sAG.trans (same_new hZ _), _, _, _, _, _, rfl⟩
    | true =>
      refine ⟨_, rfl, _, rfl, _, rfl, _, rfl, L, _, 0, .str x0, rfl, rfl, SqL.of (sAG _ _ L18), atI_of (j := 0) rfl (by rw [List.getElem?_map, hx0]; rfl), R, .bl (x 0), rfl, (by rw [← hv 0 x0 hx0]; exact DGet.k (k := Sum.inr x0) hk), _, rfl, _, rfl, (by show 2 ≤ sizeLine; decide), fun Z hZ => ?_⟩
      refine ⟨_, _, dpb2 (i := x 0) (j := true) (same_new hZ _ _ _ hD3), dpb2 upd_same, rfl, rfl, _, rfl, ?_⟩
      rw [eq_bls2]
      exact ⟨sAG.trans (same_new hZ _), _, _, _, _, _, rfl⟩
  rintro σ H19 ⟨s19, o10, o11, o12, o13, o14, rfl⟩
  have told1 := told1.ext (S := []) (.same s19)
  have told2 := told2.ext (S := []) (.same s19)
  have F19 := s19 _ _ F18
  have S19 := S18.same s19
  clear s19 F18 M17 L18 S18 m4 h4 h5 hx0 wf0
  -- the parts
  refine ⟨_, rfl, v1, t1, rfl, told1, wf1, hn.one, by omega, by omega, fun H20 u1 s20 p1 => ⟨_, rfl, v2, t2, rfl, told2.ext (S := []) (.same s20), wf2, hn.one, by omega, by omega, fun H21 u2 s21 p2 => ⟨(by show 2 ≤ sizeLine; decide), fun Pl hPl => ?_⟩⟩⟩
  have sPl := same_new hPl (.lst [u1, u2])
  have s2x := s20.trans (s21.trans sPl)
  have F22 := s2x _ _ F19
  have S22 := S19.same s2x
  have p1 := p1.ext (S := []) (.same (s21.trans sPl))
  have p2 := p2.ext (S := []) (.same sPl)
  have P22 : upd H21 Pl (.lst [u1, u2]) Pl = some (.lst [u1, u2]) := upd_same
  have Pl_l : Pl ≠ A.l := by
    obtain ⟨rs, hl, _⟩ := (S19.same (s20.trans s21)).nodes
    exact (ne_of_none hl hPl).symm
  have Pl_d : Pl ≠ A.d := (ne_of_none (S19.same (s20.trans s21)).dict hPl).symm
  generalize upd H21 Pl (.lst [u1, u2]) = H22 at sPl s2x F22 S22 p1 p2 P22 ⊢
  clear sPl s2x hPl s20 s21 S19 F19 told1 told2
  have parts : ∀ {H' : Hp} {S : List Addr}, Ext S H22 H' → PartsAt cl nm H' [u1, u2] [t1, t2] := fun e => ⟨u1, [u2], rfl, p1.ext e, u2, [], rfl, p2.ext e, rfl⟩
  have news : ∀ {H : Hp} {x dx : Addr} {C : Addr}, H x = none → H dx = none → Same H (upd (upd H dx (.own x)) x (.ins C dx [])) := fun nx nd b o e => by
    rw [upd_ne (ne_of_none e nx), upd_ne (ne_of_none e nd)]; exact e
  have za : sizes [t1, t2] = t1.size + t2.size := rfl
  have zb : depths [t1, t2] = max t1.depth (max t2.depth 0) := rfl
  have zo : ∀ b, (Tl.gr b [t1, t2]).ops = t1.ops + 1 + (t2.ops + 1) := fun b => rfl
  have zz : ∀ b, (Tl.gr b [t1, t2]).size = 1 + (t1.size + t2.size) := fun b => rfl
  have zd : ∀ b, (Tl.gr b [t1, t2]).depth = 1 + max t1.depth (max t2.depth 0) := fun b => rfl
  have zw : ∀ b, (Tl.gr b [t1, t2]).wf nm.length := fun b => ⟨Nat.le_refl 2, wf1, wf2, True.intro⟩
  -- of a series
  obtain ⟨dx22, ob22⟩ := S22.ob
  refine ⟨_, rfl, A.s, dx22, _, rfl, ob22, ng (by decide +kernel), _, rfl, fun y dy ny ndy ne => ?_⟩
  refine ⟨y, dy, Pl, [u1, u2], [t1, t2], rfl, news ny ndy _ _ P22, parts (S := []) (.same (news ny ndy)), Nat.le_refl 2, by omega, by omega, upd_same, fun H23 z hy hz mk => ⟨rfl, ?_⟩⟩
  have s23 := same_made ny ndy mk
  refine ⟨A, ns17, .ref y, .gr true [t1, t2], rfl, S22.same s23, G18, ⟨y, dy, z, [u1, u2], rfl, hy, hz, parts (S := []) (.same s23)⟩, by rw [zd]; omega, by rw [zz]; omega, zw _, hn, by rw [zo]; omega, fun H24 ns24 k1 st24 l24 d24 c24 => ?_⟩
  rw [zo] at c24
  have q24 := (Stp.of_same S22 G18 s23).trans st24
  have j24 := q24.len
  clear mk hy hz ne ny ndy st24 s23
  -- of a branch
  obtain ⟨dx24, ob24⟩ := q24.sh.ob
  refine ⟨_, rfl, A.s, dx24, _, rfl, ob24, ng (by decide +kernel), _, rfl, fun y dy ny ndy ne => ?_⟩
  have P24 := q24.ext.out _ _ P22 (by simp [Pl_l, Pl_d])
  refine ⟨y, dy, Pl, [u1, u2], [t1, t2], rfl, news ny ndy _ _ P24, parts (q24.ext.trans (.same (news ny ndy))), Nat.le_refl 2, by omega, by omega, upd_same, fun H25 z hy hz mk => ⟨rfl, ?_⟩⟩
  have s25 := same_made ny ndy mk
  refine ⟨A, ns24, .ref y, .gr false [t1, t2], rfl, q24.sh.same s25, q24.good, ⟨y, dy, z, [u1, u2], rfl, hy, hz, parts (q24.ext.trans (.same s25))⟩, by rw [zd]; omega, by rw [zz]; omega, zw _, hn, by rw [zo]; omega, fun H26 ns26 k2 st26 l26 d26 c26 => ?_⟩
  rw [zo] at c26
  have q26' := (Stp.of_same q24.sh q24.good s25).trans st26
  have q26 := q24.trans q26'
  have j26 := q26'.len
  clear mk hy hz ne ny ndy st26 s25
  -- of a turned one
  obtain ⟨dx26, ob26⟩ := q26.sh.ob
  have P26 := q26.ext.out _ _ P22 (by simp [Pl_l, Pl_d])
  refine ⟨_, rfl, A.s, dx26, _, rfl, ob26, ng (by decide +kernel), _, rfl, Pl, _, 0, u1, rfl, rfl, SqL.of P26, rfl, fun y dy ny ndy ne => ?_⟩
  refine ⟨y, dy, u1, t1, rfl, p1.ext (q26.ext.trans (.same (news ny ndy))), by omega, by omega, upd_same, fun H27 hy mk => ⟨rfl, ?_⟩⟩
  have s27 := same_made ny ndy mk
  have wn : (Tl.nt t1).wf nm.length := wf1
  have on : (Tl.nt t1).ops = t1.ops + 1 := rfl
  refine ⟨A, ns26, .ref y, .nt t1, rfl, q26.sh.same s27, q26.good, ⟨y, dy, u1, rfl, hy, p1.ext (q26.ext.trans (.same s27))⟩, (by show 1 + t1.depth ≤ 20; omega), (by show 1 + t1.size ≤ 60; omega), wn, hn, by rw [on]; omega, fun H28 ns28 k3 st28 l28 d28 c28 => ?_⟩
  rw [on] at c28
  have q28' := (Stp.of_same q26.sh q26.good s27).trans st28
  have q28 := q26.trans q28'
  have j28 := q28'.len
  clear mk hy ne ny ndy st28 s27
  refine ⟨(by show 3 ≤ sizeLine; decide), fun Y hY => ?_⟩
  have F28 := q28.ext.out _ _ F22 (by simp [Fl, Fd])
  have sY := same_new hY (.lst [.int (k1 : Nat), .int (k2 : Nat), .int (k3 : Nat)])
  obtain rfl : k1 = g1 := canon' q28.good (by omega) (by omega) fun x => by
    rw [(q26'.trans q28').den l24, d24, q28.den m1, h1]
    show (t1.ev x && (t2.ev x && true)) = _
    rw [Bool.and_true]
  obtain rfl : k2 = g2 := canon' q28.good (by omega) (by omega) fun x => by
    rw [q28'.den l26, d26, q28.den m2, h2]
    show (t1.ev x || (t2.ev x || false)) = _
    rw [Bool.or_false]
  obtain rfl : k3 = g3 := canon' q28.good (by omega) (by omega) fun x => by
    rw [d28, q28.den m3, h3]; rfl
  refine ⟨_, rfl, _, _, dp3 upd_same, dp3 (sY _ _ F28), rfl, rfl, _, rfl, ?_⟩
  rw [eq_ints]
  have S29 := q28.sh.same sY
  have G29 := q28.good
  have F29 := sY _ _ F28
  have n1ev : ∀ x, den ns28 n1 x = t1.ev x := fun x => by rw [q28.den l1, w1]
  have n2ev : ∀ x, den ns28 n2 x = t2.ev x := fun x => by rw [q28.den l2, w2]
  have g1ev : ∀ x, den ns28 k1 x = (t1.ev x && t2.ev x) := fun x => by rw [q28.den m1, h1]
  have g2ev : ∀ x, den ns28 k2 x = (t1.ev x || t2.ev x) := fun x => by rw [q28.den m2, h2]
  have g3ev : ∀ x, den ns28 k3 x = !t1.ev x := fun x => by rw [q28.den m3, h3]
  have cc : cnt nm.length ns28 ≤ 1400 := by omega
  have l1 : n1 < ns28.length + 2 := by omega
  have l2 : n2 < ns28.length + 2 := by omega
  have m1 : k1 < ns28.length + 2 := by omega
  have m2 : k2 < ns28.length + 2 := by omega
  have m3 : k3 < ns28.length + 2 := by omega
  generalize upd H28 Y (.lst [.int (k1 : Nat), .int (k2 : Nat), .int (k3 : Nat)]) = H29 at sY S29 F29 ⊢
  clear q28 q28' q26 q26' q24 ob22 ob24 ob26 parts p1 p2 P22 P24 P26 F28 F22 S22 sY hY w1 w2 h1 h2 h3 d24 d26 d28 c24 c26 c28 l24 l26 l28 j24 j26 j28 G18
  -- none of them is no number
  refine ⟨_, rfl, F, rfl, ⟨_, SqL.of F29⟩, fun D hD => ?_⟩
  refine lc_list (K := K) (a := F) (xs := [k1, k2, k3].map fun n => V.int (n : Nat)) (fun i H' => Same H29 H' ∧ H' D = some (.lst [])) ⟨same_new hD _, upd_same⟩ (fun i H' _ h => SqL.of (h.1 _ _ F29)) ?_ ?_
  · rintro i y H' ey ⟨s2, hD2⟩
    rw [List.getElem?_map] at ey
    obtain ⟨n, en, rfl⟩ := Option.map_eq_some_iff.mp ey
    exact ⟨rfl, _, rfl, _, rfl, _, rfl, s2, hD2⟩
  rintro H30 ⟨s30, hD30⟩
  refine ⟨Nat.zero_le _, fun e he => ⟨D, e, [], rfl, rfl, SqL.of (same_new he _ _ _ hD30), SqL.of upd_same, _, rfl, ?_⟩⟩
  have s31 := s30.trans (same_new he (.lst []))
  have F31 := s31 _ _ F29
  have S31 := S29.same s31
  generalize upd H30 e (.lst []) = H31 at s31 F31 S31 ⊢
  clear s31 s30 he hD30 hD F29 S29
  -- again
  obtain ⟨dx31, ob31⟩ := S31.ob
  refine ⟨_, rfl, A.s, dx31, _, rfl, ob31, ng (by decide +kernel), _, rfl, _, rfl, A, ns28, n2, n1, rfl, S31, G29, l2, l1, few, by omega, fun H32 ns32 a1 st32 y1 f1 c32 => ?_⟩
  have q32 := st32.len
  obtain ⟨dx32, ob32⟩ := st32.sh.ob
  refine ⟨_, rfl, A.s, dx32, _, rfl, ob32, ng (by decide +kernel), _, rfl, _, rfl, A, ns32, n2, n1, rfl, st32.sh, st32.good, by omega, by omega, few, by omega, fun H33 ns33 a2 st33 y2 f2 c33 => ?_⟩
  have q33 := st33.len
  have st313 := st32.trans st33
  obtain ⟨dx33, ob33⟩ := st33.sh.ob
  refine ⟨_, rfl, A.s, dx33, _, rfl, ob33, ng (by decide +kernel), _, rfl, A, ns33, n1, rfl, st33.sh, st33.good, by omega, few, by omega, fun H34 ns34 a3 st34 y3 f3 c34 => ?_⟩
  have q34 := st34.len
  have st314 := st313.trans st34
  obtain rfl : a1 = k1 := canon' st34.good (by omega) (by omega) fun x => by
    rw [(st33.trans st34).den y1, f1, st314.den m1, n1ev, n2ev, g1ev]
    show (t2.ev x && t1.ev x) = _
    rw [Bool.and_comm]
  obtain rfl : a2 = k2 := canon' st34.good (by omega) (by omega) fun x => by
    rw [st34.den y2, f2, st314.den m2, st32.den l1, st32.den l2, n1ev, n2ev, g2ev]
    show (t2.ev x || t1.ev x) = _
    rw [Bool.or_comm]
  obtain rfl : a3 = k3 := canon' st34.good (by omega) (by omega) fun x => by
    rw [f3, st313.den l1, st314.den m3, n1ev, g3ev]
  refine ⟨(by show 3 ≤ sizeLine; decide), fun Z hZ => ?_⟩
  have sZ := same_new hZ (.lst [.int (a1 : Nat), .int (a2 : Nat), .int (a3 : Nat)])
  refine ⟨_, rfl, _, rfl, _, _, dp3 upd_same, dp3 (sZ _ _ (st314.ext.out _ _ F31 (by simp [Fl, Fd]))), rfl, rfl, _, rfl, ?_⟩
  rw [eq_ints]
  have S35 := st34.sh.same sZ
  obtain ⟨dx35, ob35⟩ := S35.ob
  refine ⟨_, rfl, A.s, dx35, _, rfl, ob35, ng (by decide +kernel), _, rfl, A.s, dx35, _, rfl, ob35, ng (by decide +kernel), _, rfl, A, ns34, n2, rfl, S35, st34.good, by omega, few, by omega, fun H36 ns36 b1 st36 x1 i1 c36 => ?_⟩
  have q36 := st36.len
  refine ⟨A, ns36, b1, rfl, st36.sh, st36.good, x1, few, by omega, fun H37 ns37 b2 st37 x2 i2 c37 => ?_⟩
  have q37 := st37.len
  have st317 := st314.trans ((Stp.of_same st34.sh st34.good sZ).trans (st36.trans st37))
  obtain rfl : b2 = n2 := canon' st37.good x2 (by omega) fun x => by
    rw [i2, i1, st314.den l2, st317.den l2, Bool.not_not]
  refine ⟨_, rfl, rfl, ?_⟩
  rw [decide_eq_true rfl]
  exact q _
end
end Rw

set_option Elab.async false
set_option linter.all false
set_option maxRecDepth 100000
set_option maxHeartbeats 4000000
/-! What the top has written, the head. -/
namespace Rw
open PySem PySem.Spec PyProof.Rows L2
def relB : V → Value → Bool
  | .str x, .str y _ => x == y
  | _, _ => false
theorem relB_of : ∀ {x : V} {u : Value}, relB x u = true → RelV x u := by
  intro x u h
  unfold relB at h
  split at h
  · rename_i a b t
    have e : a = b := eq_of_beq h
    subst e
    exact ⟨t, rfl⟩
  · cases h
def relsB : List V → List Value → Bool
  | [], [] => true
  | x :: xs, u :: us => relB x u && relsB xs us
  | _, _ => false
theorem relsB_of : ∀ {xs : List V} {us : List Value}, relsB xs us = true → Vals xs us
  | [], [], _ => .nil
  | x :: xs, u :: us, h => by
    have h : (relB x u && relsB xs us) = true := h
    rw [Bool.and_eq_true] at h
    exact .cons (relB_of h.1) (relsB_of h.2)
  | [], _ :: _, h => by cases h
  | _ :: _, [], h => by cases h
theorem kit_self {K : PySem.W.Frag} {C : Addr} : PySem.W.kitOne K (.ref C) (.ref C) = some true := if_pos (beq_self_eq_true _)
theorem kit_other {K : PySem.W.Frag} {C D : Addr} (i : PySem.W.isClsIn K D = true) (t : PySem.W.typeIn K (.ref D) = some (.type "type")) (s : PySem.W.subIn K (.ref C) (.ref D) = some false) (ne : ¬ C = D) : PySem.W.kitOne K (.ref C) (.ref D) = some false := by
  unfold PySem.W.kitOne
  rw [if_neg (fun e => ne (Value.ref.inj (eq_of_beq e)))]
  show (if ((PySem.W.clsIn K D).isSome && PySem.W.typeIn K (.ref D) == some (.type "type")) = true then PySem.W.subIn K (.ref C) (.ref D) else none) = some false
  rw [if_pos ?_, s]
  rw [t, Bool.and_eq_true]
  exact ⟨i, beq_self_eq_true _⟩
def clOf (a b c d e : Addr) : Kd → Addr
  | .fx => a
  | .ct => b
  | .nt => c
  | .se => d
  | .br => e

theorem all_mk {l : PySem.W.OpenLaw} {w : World} {K : PySem.W.Frag} {h : Heap} {mg : Str → Option Value} {fa : Addr} (X : K.In h) (G : h.Ns mainGlobals mg) (hfa : mg "law" = some (.ref fa))
    {C_fx C_ct C_nt C_se C_br C_sh f_size f_depth f_contacts f_bounded f_gatherC f_gather0 f_inner0 f_innerN f_innerG f_iFx f_iCt f_iNt f_iGr f_iSh f_place f_made f_below f_sjoined f_opp f_drawn f_need f_node f_two f_both f_either f_turned f_shown g_isWord g_isName g_single g_join g_partOf g_cell g_mixed g_word g_names g_grown g_toldBy g_holds g_row g_down g_whole g_law kA : Addr}
    {od_size an_size od_depth an_depth od_contacts an_contacts od_bounded an_bounded od_gatherC an_gatherC od_gather0 an_gather0 od_inner0 an_inner0 od_innerN an_innerN od_innerG an_innerG od_iFx an_iFx od_iCt an_iCt od_iNt an_iNt od_iGr an_iGr od_iSh an_iSh od_place an_place od_made an_made od_below an_below od_sjoined an_sjoined od_opp an_opp od_drawn an_drawn od_need an_need od_node an_node od_two an_two od_both an_both od_either an_either od_turned an_turned od_shown an_shown od_DisWord an_DisWord od_DisName an_DisName od_Dsingle an_Dsingle od_Djoin an_Djoin od_DpartOf an_DpartOf od_Dcell an_Dcell od_Dmixed an_Dmixed od_Dword an_Dword od_Dnames an_Dnames od_Dgrown an_Dgrown od_DtoldBy an_DtoldBy od_Dholds an_Dholds od_Drow an_Drow od_Ddown an_Ddown od_Dwhole an_Dwhole od_Dlaw an_Dlaw kD : Option Addr} {sl_size sl_depth sl_contacts sl_bounded sl_gatherC sl_gather0 sl_inner0 sl_innerN sl_innerG sl_iFx sl_iCt sl_iNt sl_iGr sl_iSh sl_place sl_made sl_below sl_sjoined sl_opp sl_drawn sl_need sl_node sl_two sl_both sl_either sl_turned sl_shown sl_DisWord sl_DisName sl_Dsingle sl_Djoin sl_DpartOf sl_Dcell sl_Dmixed sl_Dword sl_Dnames sl_Dgrown sl_DtoldBy sl_Dholds sl_Drow sl_Ddown sl_Dwhole sl_Dlaw kSl : Array (Option Value)} {oc_size kV_size dc_size pm_size cd_size ct2_size oc_depth kV_depth dc_depth pm_depth cd_depth ct2_depth oc_contacts kV_contacts dc_contacts pm_contacts cd_contacts ct2_contacts oc_bounded kV_bounded dc_bounded pm_bounded cd_bounded ct2_bounded oc_gatherC kV_gatherC dc_gatherC pm_gatherC cd_gatherC ct2_gatherC oc_gather0 kV_gather0 dc_gather0 pm_gather0 cd_gather0 ct2_gather0 oc_inner0 kV_inner0 dc_inner0 pm_inner0 cd_inner0 ct2_inner0 oc_innerN kV_innerN dc_innerN pm_innerN cd_innerN ct2_innerN oc_innerG kV_innerG dc_innerG pm_innerG cd_innerG ct2_innerG oc_iFx kV_iFx dc_iFx pm_iFx cd_iFx ct2_iFx oc_iCt kV_iCt dc_iCt pm_iCt cd_iCt ct2_iCt oc_iNt kV_iNt dc_iNt pm_iNt cd_iNt ct2_iNt oc_iGr kV_iGr dc_iGr pm_iGr cd_iGr ct2_iGr oc_iSh kV_iSh dc_iSh pm_iSh cd_iSh ct2_iSh oc_place kV_place dc_place pm_place cd_place ct2_place oc_made kV_made dc_made pm_made cd_made ct2_made oc_below kV_below dc_below pm_below cd_below ct2_below oc_sjoined kV_sjoined dc_sjoined pm_sjoined cd_sjoined ct2_sjoined oc_opp kV_opp dc_opp pm_opp cd_opp ct2_opp oc_drawn kV_drawn dc_drawn pm_drawn cd_drawn ct2_drawn oc_need kV_need dc_need pm_need cd_need ct2_need oc_node kV_node dc_node pm_node cd_node ct2_node oc_two kV_two dc_two pm_two cd_two ct2_two oc_both kV_both dc_both pm_both cd_both ct2_both oc_either kV_either dc_either pm_either cd_either ct2_either oc_turned kV_turned dc_turned pm_turned cd_turned ct2_turned oc_shown kV_shown dc_shown pm_shown cd_shown ct2_shown oc_DisWord kV_DisWord dc_DisWord pm_DisWord cd_DisWord ct2_DisWord oc_DisName kV_DisName dc_DisName pm_DisName cd_DisName ct2_DisName oc_Dsingle kV_Dsingle dc_Dsingle pm_Dsingle cd_Dsingle ct2_Dsingle oc_Djoin kV_Djoin dc_Djoin pm_Djoin cd_Djoin ct2_Djoin oc_DpartOf kV_DpartOf dc_DpartOf pm_DpartOf cd_DpartOf ct2_DpartOf oc_Dcell kV_Dcell dc_Dcell pm_Dcell cd_Dcell ct2_Dcell oc_Dmixed kV_Dmixed dc_Dmixed pm_Dmixed cd_Dmixed ct2_Dmixed oc_Dword kV_Dword dc_Dword pm_Dword cd_Dword ct2_Dword oc_Dnames kV_Dnames dc_Dnames pm_Dnames cd_Dnames ct2_Dnames oc_Dgrown kV_Dgrown dc_Dgrown pm_Dgrown cd_Dgrown ct2_Dgrown oc_DtoldBy kV_DtoldBy dc_DtoldBy pm_DtoldBy cd_DtoldBy ct2_DtoldBy oc_Dholds kV_Dholds dc_Dholds pm_Dholds cd_Dholds ct2_Dholds oc_Drow kV_Drow dc_Drow pm_Drow cd_Drow ct2_Drow oc_Ddown kV_Ddown dc_Ddown pm_Ddown cd_Ddown ct2_Ddown oc_Dwhole kV_Dwhole dc_Dwhole pm_Dwhole cd_Dwhole ct2_Dwhole oc_Dlaw kV_Dlaw dc_Dlaw pm_Dlaw cd_Dlaw ct2_Dlaw : Value} {t_SIGNS t_MOST_SIGNS t_MOST_SIZE t_MOST_DEEP t_MOST_NAMES t_MOST_NODES : Tok}
    {kIts : Array Value} {kN : Nat}
    (a_fx : PySem.W.nsIn K mainGlobals "Fixed" = some (some (.ref C_fx)))
    (a_ct : PySem.W.nsIn K mainGlobals "Contact" = some (some (.ref C_ct)))
    (a_nt : PySem.W.nsIn K mainGlobals "Turned" = some (some (.ref C_nt)))
    (a_se : PySem.W.nsIn K mainGlobals "Series" = some (some (.ref C_se)))
    (a_br : PySem.W.nsIn K mainGlobals "Branch" = some (some (.ref C_br)))
    (a_sh : PySem.W.nsIn K mainGlobals "Sheet" = some (some (.ref C_sh)))
    (m_size_fx : PySem.W.findIn K (.ref C_fx) "size" = some (some (.ref f_size)))
    (m_size_ct : PySem.W.findIn K (.ref C_ct) "size" = some (some (.ref f_size)))
    (m_size_nt : PySem.W.findIn K (.ref C_nt) "size" = some (some (.ref f_size)))
    (m_size_se : PySem.W.findIn K (.ref C_se) "size" = some (some (.ref f_size)))
    (m_size_br : PySem.W.findIn K (.ref C_br) "size" = some (some (.ref f_size)))
    (m_depth_fx : PySem.W.findIn K (.ref C_fx) "depth" = some (some (.ref f_depth)))
    (m_depth_ct : PySem.W.findIn K (.ref C_ct) "depth" = some (some (.ref f_depth)))
    (m_depth_nt : PySem.W.findIn K (.ref C_nt) "depth" = some (some (.ref f_depth)))
    (m_depth_se : PySem.W.findIn K (.ref C_se) "depth" = some (some (.ref f_depth)))
    (m_depth_br : PySem.W.findIn K (.ref C_br) "depth" = some (some (.ref f_depth)))
    (m_contacts_fx : PySem.W.findIn K (.ref C_fx) "contacts" = some (some (.ref f_contacts)))
    (m_contacts_ct : PySem.W.findIn K (.ref C_ct) "contacts" = some (some (.ref f_contacts)))
    (m_contacts_nt : PySem.W.findIn K (.ref C_nt) "contacts" = some (some (.ref f_contacts)))
    (m_contacts_se : PySem.W.findIn K (.ref C_se) "contacts" = some (some (.ref f_contacts)))
    (m_contacts_br : PySem.W.findIn K (.ref C_br) "contacts" = some (some (.ref f_contacts)))
    (m_bounded_fx : PySem.W.findIn K (.ref C_fx) "bounded" = some (some (.ref f_bounded)))
    (m_bounded_ct : PySem.W.findIn K (.ref C_ct) "bounded" = some (some (.ref f_bounded)))
    (m_bounded_nt : PySem.W.findIn K (.ref C_nt) "bounded" = some (some (.ref f_bounded)))
    (m_bounded_se : PySem.W.findIn K (.ref C_se) "bounded" = some (some (.ref f_bounded)))
    (m_bounded_br : PySem.W.findIn K (.ref C_br) "bounded" = some (some (.ref f_bounded)))
    (m_gatherC_ct : PySem.W.findIn K (.ref C_ct) "gather" = some (some (.ref f_gatherC)))
    (m_gather0_fx : PySem.W.findIn K (.ref C_fx) "gather" = some (some (.ref f_gather0)))
    (m_gather0_nt : PySem.W.findIn K (.ref C_nt) "gather" = some (some (.ref f_gather0)))
    (m_gather0_se : PySem.W.findIn K (.ref C_se) "gather" = some (some (.ref f_gather0)))
    (m_gather0_br : PySem.W.findIn K (.ref C_br) "gather" = some (some (.ref f_gather0)))
    (m_inner0_fx : PySem.W.findIn K (.ref C_fx) "inner" = some (some (.ref f_inner0)))
    (m_inner0_ct : PySem.W.findIn K (.ref C_ct) "inner" = some (some (.ref f_inner0)))
    (m_innerN_nt : PySem.W.findIn K (.ref C_nt) "inner" = some (some (.ref f_innerN)))
    (m_innerG_se : PySem.W.findIn K (.ref C_se) "inner" = some (some (.ref f_innerG)))
    (m_innerG_br : PySem.W.findIn K (.ref C_br) "inner" = some (some (.ref f_innerG)))
    (m_iFx_fx : PySem.W.findIn K (.ref C_fx) "__init__" = some (some (.ref f_iFx)))
    (m_iCt_ct : PySem.W.findIn K (.ref C_ct) "__init__" = some (some (.ref f_iCt)))
    (m_iNt_nt : PySem.W.findIn K (.ref C_nt) "__init__" = some (some (.ref f_iNt)))
    (m_iGr_se : PySem.W.findIn K (.ref C_se) "__init__" = some (some (.ref f_iGr)))
    (m_iGr_br : PySem.W.findIn K (.ref C_br) "__init__" = some (some (.ref f_iGr)))
    (m_iSh_sh : PySem.W.findIn K (.ref C_sh) "__init__" = some (some (.ref f_iSh)))
    (m_place_sh : PySem.W.findIn K (.ref C_sh) "place" = some (some (.ref f_place)))
    (m_made_sh : PySem.W.findIn K (.ref C_sh) "made" = some (some (.ref f_made)))
    (m_below_sh : PySem.W.findIn K (.ref C_sh) "below" = some (some (.ref f_below)))
    (m_sjoined_sh : PySem.W.findIn K (.ref C_sh) "joined" = some (some (.ref f_sjoined)))
    (m_opp_sh : PySem.W.findIn K (.ref C_sh) "opposite" = some (some (.ref f_opp)))
    (m_drawn_sh : PySem.W.findIn K (.ref C_sh) "drawn" = some (some (.ref f_drawn)))
    (m_need_sh : PySem.W.findIn K (.ref C_sh) "need" = some (some (.ref f_need)))
    (m_node_sh : PySem.W.findIn K (.ref C_sh) "node" = some (some (.ref f_node)))
    (m_two_sh : PySem.W.findIn K (.ref C_sh) "of_two" = some (some (.ref f_two)))
    (m_both_sh : PySem.W.findIn K (.ref C_sh) "both" = some (some (.ref f_both)))
    (m_either_sh : PySem.W.findIn K (.ref C_sh) "either" = some (some (.ref f_either)))
    (m_turned_sh : PySem.W.findIn K (.ref C_sh) "turned" = some (some (.ref f_turned)))
    (m_shown_sh : PySem.W.findIn K (.ref C_sh) "shown" = some (some (.ref f_shown)))
    (d_isWord : PySem.W.nsIn K mainGlobals "is_word" = some (some (.ref g_isWord)))
    (d_isName : PySem.W.nsIn K mainGlobals "is_name" = some (some (.ref g_isName)))
    (d_single : PySem.W.nsIn K mainGlobals "single" = some (some (.ref g_single)))
    (d_join : PySem.W.nsIn K mainGlobals "joined" = some (some (.ref g_join)))
    (d_partOf : PySem.W.nsIn K mainGlobals "part_of" = some (some (.ref g_partOf)))
    (d_cell : PySem.W.nsIn K mainGlobals "_law_cell_at" = some (some (.ref g_cell)))
    (d_mixed : PySem.W.nsIn K mainGlobals "_law_mixed" = some (some (.ref g_mixed)))
    (d_word : PySem.W.nsIn K mainGlobals "_law_word" = some (some (.ref g_word)))
    (d_names : PySem.W.nsIn K mainGlobals "_law_names" = some (some (.ref g_names)))
    (d_grown : PySem.W.nsIn K mainGlobals "_law_grown" = some (some (.ref g_grown)))
    (d_toldBy : PySem.W.nsIn K mainGlobals "_law_told_by" = some (some (.ref g_toldBy)))
    (d_holds : PySem.W.nsIn K mainGlobals "_law_holds" = some (some (.ref g_holds)))
    (d_row : PySem.W.nsIn K mainGlobals "_law_row" = some (some (.ref g_row)))
    (d_down : PySem.W.nsIn K mainGlobals "_law_down" = some (some (.ref g_down)))
    (d_whole : PySem.W.nsIn K mainGlobals "_law_whole" = some (some (.ref g_whole)))
    (d_law : PySem.W.nsIn K mainGlobals "law" = some (some (.ref g_law)))
    (l_size : K.lookup f_size = some ⟨oc_size, od_size, .func (PySem.W.fnOf "size" "Part.size" (defArgs sSize) (defBody sSize) (defScope sSize) .none kV_size dc_size pm_size an_size cd_size ct2_size), sl_size⟩)
    (c_size : PySem.W.codeIn K cd_size "Part.size" = true)
    (k_size : PySem.W.keepIn K (.ref f_size) = true)
    (i_size : PySem.W.isFn K (.ref f_size) = true)
    (l_depth : K.lookup f_depth = some ⟨oc_depth, od_depth, .func (PySem.W.fnOf "depth" "Part.depth" (defArgs sDepth) (defBody sDepth) (defScope sDepth) .none kV_depth dc_depth pm_depth an_depth cd_depth ct2_depth), sl_depth⟩)
    (c_depth : PySem.W.codeIn K cd_depth "Part.depth" = true)
    (k_depth : PySem.W.keepIn K (.ref f_depth) = true)
    (i_depth : PySem.W.isFn K (.ref f_depth) = true)
    (l_contacts : K.lookup f_contacts = some ⟨oc_contacts, od_contacts, .func (PySem.W.fnOf "contacts" "Part.contacts" (defArgs sContacts) (defBody sContacts) (defScope sContacts) .none kV_contacts dc_contacts pm_contacts an_contacts cd_contacts ct2_contacts), sl_contacts⟩)
    (c_contacts : PySem.W.codeIn K cd_contacts "Part.contacts" = true)
    (k_contacts : PySem.W.keepIn K (.ref f_contacts) = true)
    (i_contacts : PySem.W.isFn K (.ref f_contacts) = true)
    (l_bounded : K.lookup f_bounded = some ⟨oc_bounded, od_bounded, .func (PySem.W.fnOf "bounded" "Part.bounded" (defArgs sBounded) (defBody sBounded) (defScope sBounded) .none kV_bounded dc_bounded pm_bounded an_bounded cd_bounded ct2_bounded), sl_bounded⟩)
    (c_bounded : PySem.W.codeIn K cd_bounded "Part.bounded" = true)
    (k_bounded : PySem.W.keepIn K (.ref f_bounded) = true)
    (i_bounded : PySem.W.isFn K (.ref f_bounded) = true)
    (l_gatherC : K.lookup f_gatherC = some ⟨oc_gatherC, od_gatherC, .func (PySem.W.fnOf "gather" "Contact.gather" (defArgs sGatherC) (defBody sGatherC) (defScope sGatherC) .none kV_gatherC dc_gatherC pm_gatherC an_gatherC cd_gatherC ct2_gatherC), sl_gatherC⟩)
    (c_gatherC : PySem.W.codeIn K cd_gatherC "Contact.gather" = true)
    (k_gatherC : PySem.W.keepIn K (.ref f_gatherC) = true)
    (i_gatherC : PySem.W.isFn K (.ref f_gatherC) = true)
    (l_gather0 : K.lookup f_gather0 = some ⟨oc_gather0, od_gather0, .func (PySem.W.fnOf "gather" "Part.gather" (defArgs sGather0) (defBody sGather0) (defScope sGather0) .none kV_gather0 dc_gather0 pm_gather0 an_gather0 cd_gather0 ct2_gather0), sl_gather0⟩)
    (c_gather0 : PySem.W.codeIn K cd_gather0 "Part.gather" = true)
    (k_gather0 : PySem.W.keepIn K (.ref f_gather0) = true)
    (i_gather0 : PySem.W.isFn K (.ref f_gather0) = true)
    (l_inner0 : K.lookup f_inner0 = some ⟨oc_inner0, od_inner0, .func (PySem.W.fnOf "inner" "Part.inner" (defArgs sInner0) (defBody sInner0) (defScope sInner0) .none kV_inner0 dc_inner0 pm_inner0 an_inner0 cd_inner0 ct2_inner0), sl_inner0⟩)
    (c_inner0 : PySem.W.codeIn K cd_inner0 "Part.inner" = true)
    (k_inner0 : PySem.W.keepIn K (.ref f_inner0) = true)
    (i_inner0 : PySem.W.isFn K (.ref f_inner0) = true)
    (l_innerN : K.lookup f_innerN = some ⟨oc_innerN, od_innerN, .func (PySem.W.fnOf "inner" "Turned.inner" (defArgs sInnerN) (defBody sInnerN) (defScope sInnerN) .none kV_innerN dc_innerN pm_innerN an_innerN cd_innerN ct2_innerN), sl_innerN⟩)
    (c_innerN : PySem.W.codeIn K cd_innerN "Turned.inner" = true)
    (k_innerN : PySem.W.keepIn K (.ref f_innerN) = true)
    (i_innerN : PySem.W.isFn K (.ref f_innerN) = true)
    (l_innerG : K.lookup f_innerG = some ⟨oc_innerG, od_innerG, .func (PySem.W.fnOf "inner" "Group.inner" (defArgs sInnerG) (defBody sInnerG) (defScope sInnerG) .none kV_innerG dc_innerG pm_innerG an_innerG cd_innerG ct2_innerG), sl_innerG⟩)
    (c_innerG : PySem.W.codeIn K cd_innerG "Group.inner" = true)
    (k_innerG : PySem.W.keepIn K (.ref f_innerG) = true)
    (i_innerG : PySem.W.isFn K (.ref f_innerG) = true)
    (l_iFx : K.lookup f_iFx = some ⟨oc_iFx, od_iFx, .func (PySem.W.fnOf "__init__" "Fixed.__init__" (defArgs sFxInit) (defBody sFxInit) (defScope sFxInit) .none kV_iFx dc_iFx pm_iFx an_iFx cd_iFx ct2_iFx), sl_iFx⟩)
    (c_iFx : PySem.W.codeIn K cd_iFx "Fixed.__init__" = true)
    (k_iFx : PySem.W.keepIn K (.ref f_iFx) = true)
    (i_iFx : PySem.W.isFn K (.ref f_iFx) = true)
    (l_iCt : K.lookup f_iCt = some ⟨oc_iCt, od_iCt, .func (PySem.W.fnOf "__init__" "Contact.__init__" (defArgs sCtInit) (defBody sCtInit) (defScope sCtInit) .none kV_iCt dc_iCt pm_iCt an_iCt cd_iCt ct2_iCt), sl_iCt⟩)
    (c_iCt : PySem.W.codeIn K cd_iCt "Contact.__init__" = true)
    (k_iCt : PySem.W.keepIn K (.ref f_iCt) = true)
    (i_iCt : PySem.W.isFn K (.ref f_iCt) = true)
    (l_iNt : K.lookup f_iNt = some ⟨oc_iNt, od_iNt, .func (PySem.W.fnOf "__init__" "Turned.__init__" (defArgs sNtInit) (defBody sNtInit) (defScope sNtInit) .none kV_iNt dc_iNt pm_iNt an_iNt cd_iNt ct2_iNt), sl_iNt⟩)
    (c_iNt : PySem.W.codeIn K cd_iNt "Turned.__init__" = true)
    (k_iNt : PySem.W.keepIn K (.ref f_iNt) = true)
    (i_iNt : PySem.W.isFn K (.ref f_iNt) = true)
    (l_iGr : K.lookup f_iGr = some ⟨oc_iGr, od_iGr, .func (PySem.W.fnOf "__init__" "Group.__init__" (defArgs sGrInit) (defBody sGrInit) (defScope sGrInit) .none kV_iGr dc_iGr pm_iGr an_iGr cd_iGr ct2_iGr), sl_iGr⟩)
    (c_iGr : PySem.W.codeIn K cd_iGr "Group.__init__" = true)
    (k_iGr : PySem.W.keepIn K (.ref f_iGr) = true)
    (i_iGr : PySem.W.isFn K (.ref f_iGr) = true)
    (l_iSh : K.lookup f_iSh = some ⟨oc_iSh, od_iSh, .func (PySem.W.fnOf "__init__" "Sheet.__init__" (defArgs sShInit) (defBody sShInit) (defScope sShInit) .none kV_iSh dc_iSh pm_iSh an_iSh cd_iSh ct2_iSh), sl_iSh⟩)
    (c_iSh : PySem.W.codeIn K cd_iSh "Sheet.__init__" = true)
    (k_iSh : PySem.W.keepIn K (.ref f_iSh) = true)
    (i_iSh : PySem.W.isFn K (.ref f_iSh) = true)
    (l_place : K.lookup f_place = some ⟨oc_place, od_place, .func (PySem.W.fnOf "place" "Sheet.place" (defArgs sPlace) (defBody sPlace) (defScope sPlace) .none kV_place dc_place pm_place an_place cd_place ct2_place), sl_place⟩)
    (c_place : PySem.W.codeIn K cd_place "Sheet.place" = true)
    (k_place : PySem.W.keepIn K (.ref f_place) = true)
    (i_place : PySem.W.isFn K (.ref f_place) = true)
    (l_made : K.lookup f_made = some ⟨oc_made, od_made, .func (PySem.W.fnOf "made" "Sheet.made" (defArgs sMade) (defBody sMade) (defScope sMade) .none kV_made dc_made pm_made an_made cd_made ct2_made), sl_made⟩)
    (c_made : PySem.W.codeIn K cd_made "Sheet.made" = true)
    (k_made : PySem.W.keepIn K (.ref f_made) = true)
    (i_made : PySem.W.isFn K (.ref f_made) = true)
    (l_below : K.lookup f_below = some ⟨oc_below, od_below, .func (PySem.W.fnOf "below" "Sheet.below" (defArgs sBelow) (defBody sBelow) (defScope sBelow) .none kV_below dc_below pm_below an_below cd_below ct2_below), sl_below⟩)
    (c_below : PySem.W.codeIn K cd_below "Sheet.below" = true)
    (k_below : PySem.W.keepIn K (.ref f_below) = true)
    (i_below : PySem.W.isFn K (.ref f_below) = true)
    (l_sjoined : K.lookup f_sjoined = some ⟨oc_sjoined, od_sjoined, .func (PySem.W.fnOf "joined" "Sheet.joined" (defArgs sJoined) (defBody sJoined) (defScope sJoined) .none kV_sjoined dc_sjoined pm_sjoined an_sjoined cd_sjoined ct2_sjoined), sl_sjoined⟩)
    (c_sjoined : PySem.W.codeIn K cd_sjoined "Sheet.joined" = true)
    (k_sjoined : PySem.W.keepIn K (.ref f_sjoined) = true)
    (i_sjoined : PySem.W.isFn K (.ref f_sjoined) = true)
    (l_opp : K.lookup f_opp = some ⟨oc_opp, od_opp, .func (PySem.W.fnOf "opposite" "Sheet.opposite" (defArgs sOpp) (defBody sOpp) (defScope sOpp) .none kV_opp dc_opp pm_opp an_opp cd_opp ct2_opp), sl_opp⟩)
    (c_opp : PySem.W.codeIn K cd_opp "Sheet.opposite" = true)
    (k_opp : PySem.W.keepIn K (.ref f_opp) = true)
    (i_opp : PySem.W.isFn K (.ref f_opp) = true)
    (l_drawn : K.lookup f_drawn = some ⟨oc_drawn, od_drawn, .func (PySem.W.fnOf "drawn" "Sheet.drawn" (defArgs sDrawn) (defBody sDrawn) (defScope sDrawn) .none kV_drawn dc_drawn pm_drawn an_drawn cd_drawn ct2_drawn), sl_drawn⟩)
    (c_drawn : PySem.W.codeIn K cd_drawn "Sheet.drawn" = true)
    (k_drawn : PySem.W.keepIn K (.ref f_drawn) = true)
    (i_drawn : PySem.W.isFn K (.ref f_drawn) = true)
    (l_need : K.lookup f_need = some ⟨oc_need, od_need, .func (PySem.W.fnOf "need" "Sheet.need" (defArgs sNeed) (defBody sNeed) (defScope sNeed) .none kV_need dc_need pm_need an_need cd_need ct2_need), sl_need⟩)
    (c_need : PySem.W.codeIn K cd_need "Sheet.need" = true)
    (k_need : PySem.W.keepIn K (.ref f_need) = true)
    (i_need : PySem.W.isFn K (.ref f_need) = true)
    (l_node : K.lookup f_node = some ⟨oc_node, od_node, .func (PySem.W.fnOf "node" "Sheet.node" (defArgs sNode) (defBody sNode) (defScope sNode) .none kV_node dc_node pm_node an_node cd_node ct2_node), sl_node⟩)
    (c_node : PySem.W.codeIn K cd_node "Sheet.node" = true)
    (k_node : PySem.W.keepIn K (.ref f_node) = true)
    (i_node : PySem.W.isFn K (.ref f_node) = true)
    (l_two : K.lookup f_two = some ⟨oc_two, od_two, .func (PySem.W.fnOf "of_two" "Sheet.of_two" (defArgs sTwo) (defBody sTwo) (defScope sTwo) .none kV_two dc_two pm_two an_two cd_two ct2_two), sl_two⟩)
    (c_two : PySem.W.codeIn K cd_two "Sheet.of_two" = true)
    (k_two : PySem.W.keepIn K (.ref f_two) = true)
    (i_two : PySem.W.isFn K (.ref f_two) = true)
    (l_both : K.lookup f_both = some ⟨oc_both, od_both, .func (PySem.W.fnOf "both" "Sheet.both" (defArgs sBoth) (defBody sBoth) (defScope sBoth) .none kV_both dc_both pm_both an_both cd_both ct2_both), sl_both⟩)
    (c_both : PySem.W.codeIn K cd_both "Sheet.both" = true)
    (k_both : PySem.W.keepIn K (.ref f_both) = true)
    (i_both : PySem.W.isFn K (.ref f_both) = true)
    (l_either : K.lookup f_either = some ⟨oc_either, od_either, .func (PySem.W.fnOf "either" "Sheet.either" (defArgs sEither) (defBody sEither) (defScope sEither) .none kV_either dc_either pm_either an_either cd_either ct2_either), sl_either⟩)
    (c_either : PySem.W.codeIn K cd_either "Sheet.either" = true)
    (k_either : PySem.W.keepIn K (.ref f_either) = true)
    (i_either : PySem.W.isFn K (.ref f_either) = true)
    (l_turned : K.lookup f_turned = some ⟨oc_turned, od_turned, .func (PySem.W.fnOf "turned" "Sheet.turned" (defArgs sTurned) (defBody sTurned) (defScope sTurned) .none kV_turned dc_turned pm_turned an_turned cd_turned ct2_turned), sl_turned⟩)
    (c_turned : PySem.W.codeIn K cd_turned "Sheet.turned" = true)
    (k_turned : PySem.W.keepIn K (.ref f_turned) = true)
    (i_turned : PySem.W.isFn K (.ref f_turned) = true)
    (l_shown : K.lookup f_shown = some ⟨oc_shown, od_shown, .func (PySem.W.fnOf "shown" "Sheet.shown" (defArgs sShown) (defBody sShown) (defScope sShown) .none kV_shown dc_shown pm_shown an_shown cd_shown ct2_shown), sl_shown⟩)
    (c_shown : PySem.W.codeIn K cd_shown "Sheet.shown" = true)
    (k_shown : PySem.W.keepIn K (.ref f_shown) = true)
    (i_shown : PySem.W.isFn K (.ref f_shown) = true)
    (l_DisWord : K.lookup g_isWord = some ⟨oc_DisWord, od_DisWord, .func (PySem.W.fnOf "is_word" "is_word" (defArgs sIsWord) (defBody sIsWord) (defScope sIsWord) .none kV_DisWord dc_DisWord pm_DisWord an_DisWord cd_DisWord ct2_DisWord), sl_DisWord⟩)
    (c_DisWord : PySem.W.codeIn K cd_DisWord "is_word" = true)
    (k_DisWord : PySem.W.keepIn K (.ref g_isWord) = true)
    (l_DisName : K.lookup g_isName = some ⟨oc_DisName, od_DisName, .func (PySem.W.fnOf "is_name" "is_name" (defArgs sIsName) (defBody sIsName) (defScope sIsName) .none kV_DisName dc_DisName pm_DisName an_DisName cd_DisName ct2_DisName), sl_DisName⟩)
    (c_DisName : PySem.W.codeIn K cd_DisName "is_name" = true)
    (k_DisName : PySem.W.keepIn K (.ref g_isName) = true)
    (l_Dsingle : K.lookup g_single = some ⟨oc_Dsingle, od_Dsingle, .func (PySem.W.fnOf "single" "single" (defArgs sSingle) (defBody sSingle) (defScope sSingle) .none kV_Dsingle dc_Dsingle pm_Dsingle an_Dsingle cd_Dsingle ct2_Dsingle), sl_Dsingle⟩)
    (c_Dsingle : PySem.W.codeIn K cd_Dsingle "single" = true)
    (k_Dsingle : PySem.W.keepIn K (.ref g_single) = true)
    (l_Djoin : K.lookup g_join = some ⟨oc_Djoin, od_Djoin, .func (PySem.W.fnOf "joined" "joined" (defArgs sJoin) (defBody sJoin) (defScope sJoin) .none kV_Djoin dc_Djoin pm_Djoin an_Djoin cd_Djoin ct2_Djoin), sl_Djoin⟩)
    (c_Djoin : PySem.W.codeIn K cd_Djoin "joined" = true)
    (k_Djoin : PySem.W.keepIn K (.ref g_join) = true)
    (l_DpartOf : K.lookup g_partOf = some ⟨oc_DpartOf, od_DpartOf, .func (PySem.W.fnOf "part_of" "part_of" (defArgs sPartOf) (defBody sPartOf) (defScope sPartOf) .none kV_DpartOf dc_DpartOf pm_DpartOf an_DpartOf cd_DpartOf ct2_DpartOf), sl_DpartOf⟩)
    (c_DpartOf : PySem.W.codeIn K cd_DpartOf "part_of" = true)
    (k_DpartOf : PySem.W.keepIn K (.ref g_partOf) = true)
    (l_Dcell : K.lookup g_cell = some ⟨oc_Dcell, od_Dcell, .func (PySem.W.fnOf "_law_cell_at" "_law_cell_at" (defArgs sCellAt) (defBody sCellAt) (defScope sCellAt) .none kV_Dcell dc_Dcell pm_Dcell an_Dcell cd_Dcell ct2_Dcell), sl_Dcell⟩)
    (c_Dcell : PySem.W.codeIn K cd_Dcell "_law_cell_at" = true)
    (k_Dcell : PySem.W.keepIn K (.ref g_cell) = true)
    (l_Dmixed : K.lookup g_mixed = some ⟨oc_Dmixed, od_Dmixed, .func (PySem.W.fnOf "_law_mixed" "_law_mixed" (defArgs sMixed) (defBody sMixed) (defScope sMixed) .none kV_Dmixed dc_Dmixed pm_Dmixed an_Dmixed cd_Dmixed ct2_Dmixed), sl_Dmixed⟩)
    (c_Dmixed : PySem.W.codeIn K cd_Dmixed "_law_mixed" = true)
    (k_Dmixed : PySem.W.keepIn K (.ref g_mixed) = true)
    (l_Dword : K.lookup g_word = some ⟨oc_Dword, od_Dword, .func (PySem.W.fnOf "_law_word" "_law_word" (defArgs sWord) (defBody sWord) (defScope sWord) .none kV_Dword dc_Dword pm_Dword an_Dword cd_Dword ct2_Dword), sl_Dword⟩)
    (c_Dword : PySem.W.codeIn K cd_Dword "_law_word" = true)
    (k_Dword : PySem.W.keepIn K (.ref g_word) = true)
    (l_Dnames : K.lookup g_names = some ⟨oc_Dnames, od_Dnames, .func (PySem.W.fnOf "_law_names" "_law_names" (defArgs sNames) (defBody sNames) (defScope sNames) .none kV_Dnames dc_Dnames pm_Dnames an_Dnames cd_Dnames ct2_Dnames), sl_Dnames⟩)
    (c_Dnames : PySem.W.codeIn K cd_Dnames "_law_names" = true)
    (k_Dnames : PySem.W.keepIn K (.ref g_names) = true)
    (l_Dgrown : K.lookup g_grown = some ⟨oc_Dgrown, od_Dgrown, .func (PySem.W.fnOf "_law_grown" "_law_grown" (defArgs sGrown) (defBody sGrown) (defScope sGrown) .none kV_Dgrown dc_Dgrown pm_Dgrown an_Dgrown cd_Dgrown ct2_Dgrown), sl_Dgrown⟩)
    (c_Dgrown : PySem.W.codeIn K cd_Dgrown "_law_grown" = true)
    (k_Dgrown : PySem.W.keepIn K (.ref g_grown) = true)
    (l_DtoldBy : K.lookup g_toldBy = some ⟨oc_DtoldBy, od_DtoldBy, .func (PySem.W.fnOf "_law_told_by" "_law_told_by" (defArgs sToldBy) (defBody sToldBy) (defScope sToldBy) .none kV_DtoldBy dc_DtoldBy pm_DtoldBy an_DtoldBy cd_DtoldBy ct2_DtoldBy), sl_DtoldBy⟩)
    (c_DtoldBy : PySem.W.codeIn K cd_DtoldBy "_law_told_by" = true)
    (k_DtoldBy : PySem.W.keepIn K (.ref g_toldBy) = true)
    (l_Dholds : K.lookup g_holds = some ⟨oc_Dholds, od_Dholds, .func (PySem.W.fnOf "_law_holds" "_law_holds" (defArgs sHolds) (defBody sHolds) (defScope sHolds) .none kV_Dholds dc_Dholds pm_Dholds an_Dholds cd_Dholds ct2_Dholds), sl_Dholds⟩)
    (c_Dholds : PySem.W.codeIn K cd_Dholds "_law_holds" = true)
    (k_Dholds : PySem.W.keepIn K (.ref g_holds) = true)
    (l_Drow : K.lookup g_row = some ⟨oc_Drow, od_Drow, .func (PySem.W.fnOf "_law_row" "_law_row" (defArgs sRow) (defBody sRow) (defScope sRow) .none kV_Drow dc_Drow pm_Drow an_Drow cd_Drow ct2_Drow), sl_Drow⟩)
    (c_Drow : PySem.W.codeIn K cd_Drow "_law_row" = true)
    (k_Drow : PySem.W.keepIn K (.ref g_row) = true)
    (l_Ddown : K.lookup g_down = some ⟨oc_Ddown, od_Ddown, .func (PySem.W.fnOf "_law_down" "_law_down" (defArgs sDown) (defBody sDown) (defScope sDown) .none kV_Ddown dc_Ddown pm_Ddown an_Ddown cd_Ddown ct2_Ddown), sl_Ddown⟩)
    (c_Ddown : PySem.W.codeIn K cd_Ddown "_law_down" = true)
    (k_Ddown : PySem.W.keepIn K (.ref g_down) = true)
    (l_Dwhole : K.lookup g_whole = some ⟨oc_Dwhole, od_Dwhole, .func (PySem.W.fnOf "_law_whole" "_law_whole" (defArgs sWhole) (defBody sWhole) (defScope sWhole) .none kV_Dwhole dc_Dwhole pm_Dwhole an_Dwhole cd_Dwhole ct2_Dwhole), sl_Dwhole⟩)
    (c_Dwhole : PySem.W.codeIn K cd_Dwhole "_law_whole" = true)
    (k_Dwhole : PySem.W.keepIn K (.ref g_whole) = true)
    (l_Dlaw : K.lookup g_law = some ⟨oc_Dlaw, od_Dlaw, .func (PySem.W.fnOf "law" "law" (defArgs sLaw) (defBody sLaw) (defScope sLaw) .none kV_Dlaw dc_Dlaw pm_Dlaw an_Dlaw cd_Dlaw ct2_Dlaw), sl_Dlaw⟩)
    (c_Dlaw : PySem.W.codeIn K cd_Dlaw "law" = true)
    (k_Dlaw : PySem.W.keepIn K (.ref g_law) = true)
    (pg_fx : PySem.W.plainGet K C_fx Str.empty = true)
    (hd_fx : PySem.W.hasDictIn K C_fx = true)
    (po_fx : PySem.W.plainOver K C_fx = true)
    (sa_fx : PySem.W.findIn K (.ref C_fx) "__setattr__" = some (some (.builtin "object.__setattr__")))
    (mk_fx : PySem.W.makesIn K C_fx = true)
    (kc_fx : PySem.W.keepIn K (.ref C_fx) = true)
    (pg_ct : PySem.W.plainGet K C_ct Str.empty = true)
    (hd_ct : PySem.W.hasDictIn K C_ct = true)
    (po_ct : PySem.W.plainOver K C_ct = true)
    (sa_ct : PySem.W.findIn K (.ref C_ct) "__setattr__" = some (some (.builtin "object.__setattr__")))
    (mk_ct : PySem.W.makesIn K C_ct = true)
    (kc_ct : PySem.W.keepIn K (.ref C_ct) = true)
    (pg_nt : PySem.W.plainGet K C_nt Str.empty = true)
    (hd_nt : PySem.W.hasDictIn K C_nt = true)
    (po_nt : PySem.W.plainOver K C_nt = true)
    (sa_nt : PySem.W.findIn K (.ref C_nt) "__setattr__" = some (some (.builtin "object.__setattr__")))
    (mk_nt : PySem.W.makesIn K C_nt = true)
    (kc_nt : PySem.W.keepIn K (.ref C_nt) = true)
    (pg_se : PySem.W.plainGet K C_se Str.empty = true)
    (hd_se : PySem.W.hasDictIn K C_se = true)
    (po_se : PySem.W.plainOver K C_se = true)
    (sa_se : PySem.W.findIn K (.ref C_se) "__setattr__" = some (some (.builtin "object.__setattr__")))
    (mk_se : PySem.W.makesIn K C_se = true)
    (kc_se : PySem.W.keepIn K (.ref C_se) = true)
    (pg_br : PySem.W.plainGet K C_br Str.empty = true)
    (hd_br : PySem.W.hasDictIn K C_br = true)
    (po_br : PySem.W.plainOver K C_br = true)
    (sa_br : PySem.W.findIn K (.ref C_br) "__setattr__" = some (some (.builtin "object.__setattr__")))
    (mk_br : PySem.W.makesIn K C_br = true)
    (kc_br : PySem.W.keepIn K (.ref C_br) = true)
    (pg_sh : PySem.W.plainGet K C_sh Str.empty = true)
    (hd_sh : PySem.W.hasDictIn K C_sh = true)
    (po_sh : PySem.W.plainOver K C_sh = true)
    (sa_sh : PySem.W.findIn K (.ref C_sh) "__setattr__" = some (some (.builtin "object.__setattr__")))
    (mk_sh : PySem.W.makesIn K C_sh = true)
    (kc_sh : PySem.W.keepIn K (.ref C_sh) = true)
    (hn : PySem.W.specialIn K (.builtin "object.__class__") "__get__" = some (some (.builtin "getset_descriptor.__get__")))
    (htk : PySem.W.takesIn K (.builtin "object.__class__") = some true)
    (ha_fx : PySem.W.findIn K (.ref C_fx) "__class__" = some (some (.builtin "object.__class__")))
    (hm_fx : PySem.W.mroIn K C_fx (.type "object") = some true)
    (ha_ct : PySem.W.findIn K (.ref C_ct) "__class__" = some (some (.builtin "object.__class__")))
    (hm_ct : PySem.W.mroIn K C_ct (.type "object") = some true)
    (ha_nt : PySem.W.findIn K (.ref C_nt) "__class__" = some (some (.builtin "object.__class__")))
    (hm_nt : PySem.W.mroIn K C_nt (.type "object") = some true)
    (ha_se : PySem.W.findIn K (.ref C_se) "__class__" = some (some (.builtin "object.__class__")))
    (hm_se : PySem.W.mroIn K C_se (.type "object") = some true)
    (ha_br : PySem.W.findIn K (.ref C_br) "__class__" = some (some (.builtin "object.__class__")))
    (hm_br : PySem.W.mroIn K C_br (.type "object") = some true)
    (ic_fx : PySem.W.isClsIn K C_fx = true)
    (it_fx : PySem.W.typeIn K (.ref C_fx) = some (.type "type"))
    (sb_ct_fx : PySem.W.subIn K (.ref C_ct) (.ref C_fx) = some false)
    (ne_ct_fx : ¬ C_ct = C_fx)
    (sb_nt_fx : PySem.W.subIn K (.ref C_nt) (.ref C_fx) = some false)
    (ne_nt_fx : ¬ C_nt = C_fx)
    (sb_se_fx : PySem.W.subIn K (.ref C_se) (.ref C_fx) = some false)
    (ne_se_fx : ¬ C_se = C_fx)
    (sb_br_fx : PySem.W.subIn K (.ref C_br) (.ref C_fx) = some false)
    (ne_br_fx : ¬ C_br = C_fx)
    (ic_ct : PySem.W.isClsIn K C_ct = true)
    (it_ct : PySem.W.typeIn K (.ref C_ct) = some (.type "type"))
    (sb_fx_ct : PySem.W.subIn K (.ref C_fx) (.ref C_ct) = some false)
    (ne_fx_ct : ¬ C_fx = C_ct)
    (sb_nt_ct : PySem.W.subIn K (.ref C_nt) (.ref C_ct) = some false)
    (ne_nt_ct : ¬ C_nt = C_ct)
    (sb_se_ct : PySem.W.subIn K (.ref C_se) (.ref C_ct) = some false)
    (ne_se_ct : ¬ C_se = C_ct)
    (sb_br_ct : PySem.W.subIn K (.ref C_br) (.ref C_ct) = some false)
    (ne_br_ct : ¬ C_br = C_ct)
    (ic_nt : PySem.W.isClsIn K C_nt = true)
    (it_nt : PySem.W.typeIn K (.ref C_nt) = some (.type "type"))
    (sb_fx_nt : PySem.W.subIn K (.ref C_fx) (.ref C_nt) = some false)
    (ne_fx_nt : ¬ C_fx = C_nt)
    (sb_ct_nt : PySem.W.subIn K (.ref C_ct) (.ref C_nt) = some false)
    (ne_ct_nt : ¬ C_ct = C_nt)
    (sb_se_nt : PySem.W.subIn K (.ref C_se) (.ref C_nt) = some false)
    (ne_se_nt : ¬ C_se = C_nt)
    (sb_br_nt : PySem.W.subIn K (.ref C_br) (.ref C_nt) = some false)
    (ne_br_nt : ¬ C_br = C_nt)
    (ic_se : PySem.W.isClsIn K C_se = true)
    (it_se : PySem.W.typeIn K (.ref C_se) = some (.type "type"))
    (sb_fx_se : PySem.W.subIn K (.ref C_fx) (.ref C_se) = some false)
    (ne_fx_se : ¬ C_fx = C_se)
    (sb_ct_se : PySem.W.subIn K (.ref C_ct) (.ref C_se) = some false)
    (ne_ct_se : ¬ C_ct = C_se)
    (sb_nt_se : PySem.W.subIn K (.ref C_nt) (.ref C_se) = some false)
    (ne_nt_se : ¬ C_nt = C_se)
    (sb_br_se : PySem.W.subIn K (.ref C_br) (.ref C_se) = some false)
    (ne_br_se : ¬ C_br = C_se)
    (nV : PySem.W.findIn K (.ref C_fx) "value" = some none)
    (nN : PySem.W.findIn K (.ref C_ct) "name" = some none)
    (nP : PySem.W.findIn K (.ref C_nt) "part" = some none)
    (nS : PySem.W.findIn K (.ref C_se) "parts" = some none)
    (nB : PySem.W.findIn K (.ref C_br) "parts" = some none)
    (sM : PySem.W.findIn K (.ref C_sh) "names" = some none)
    (sN : PySem.W.findIn K (.ref C_sh) "nodes" = some none)
    (sU : PySem.W.findIn K (.ref C_sh) "numbers" = some none)
    (z_len : PySem.W.nsIn K mainGlobals "len" = some none)
    (z_sum : PySem.W.nsIn K mainGlobals "sum" = some none)
    (z_max : PySem.W.nsIn K mainGlobals "max" = some none)
    (z_tuple : PySem.W.nsIn K mainGlobals "tuple" = some none)
    (z_set : PySem.W.nsIn K mainGlobals "set" = some none)
    (z_isinstance : PySem.W.nsIn K mainGlobals "isinstance" = some none)
    (z_min : PySem.W.nsIn K mainGlobals "min" = some none)
    (z_int : PySem.W.nsIn K mainGlobals "int" = some none)
    (z_range : PySem.W.nsIn K mainGlobals "range" = some none)
    (z_bool : PySem.W.nsIn K mainGlobals "bool" = some none)
    (v_SIGNS : PySem.W.nsIn K mainGlobals "SIGNS" = some (some (.str "abcdefghijklmnopqrstuvwxyz" t_SIGNS)))
    (v_MOST_SIGNS : PySem.W.nsIn K mainGlobals "MOST_SIGNS" = some (some (.int 8 t_MOST_SIGNS)))
    (v_MOST_SIZE : PySem.W.nsIn K mainGlobals "MOST_SIZE" = some (some (.int 60 t_MOST_SIZE)))
    (v_MOST_DEEP : PySem.W.nsIn K mainGlobals "MOST_DEEP" = some (some (.int 20 t_MOST_DEEP)))
    (v_MOST_NAMES : PySem.W.nsIn K mainGlobals "MOST_NAMES" = some (some (.int 60 t_MOST_NAMES)))
    (v_MOST_NODES : PySem.W.nsIn K mainGlobals "MOST_NODES" = some (some (.int 2000 t_MOST_NODES)))
    (aK : PySem.W.nsIn K mainGlobals "KEPT" = some (some (.ref kA)))
    (lK : K.lookup kA = some ⟨.type "tuple", kD, .seq kIts kN, kSl⟩)
    (rK : relsB (keptL.map V.str) kIts.toList = true)
    (zK : kIts.size ≤ sizeLine)
    : ∃ fd : FuncData, (∀ (s : Shared) (v : Value), BindsTo s fd ⟨[v], []⟩ [("_law_script", v)]) ∧ ∀ base : Heap, K.In base → base.Ns mainGlobals mg → FnOk l.prog w K mg base CX0 31 fa fd ["_law_script"] (spLaw K) := by
  have e := hfa.symm.trans (PySem.W.mg_of X G d_law)
  cases e
  have F_size := fun_mk (st := sSize) l_size c_size k_size
  have b_size := F_size.binds (ps := ["self"]) fun _ _ _ _ _ _ us hl => match us, hl with | [_], _ => rfl
  have F_depth := fun_mk (st := sDepth) l_depth c_depth k_depth
  have b_depth := F_depth.binds (ps := ["self"]) fun _ _ _ _ _ _ us hl => match us, hl with | [_], _ => rfl
  have F_contacts := fun_mk (st := sContacts) l_contacts c_contacts k_contacts
  have b_contacts := F_contacts.binds (ps := ["self"]) fun _ _ _ _ _ _ us hl => match us, hl with | [_], _ => rfl
  have F_bounded := fun_mk (st := sBounded) l_bounded c_bounded k_bounded
  have b_bounded := F_bounded.binds (ps := ["self"]) fun _ _ _ _ _ _ us hl => match us, hl with | [_], _ => rfl
  have F_gatherC := fun_mk (st := sGatherC) l_gatherC c_gatherC k_gatherC
  have b_gatherC := F_gatherC.binds (ps := ["self", "found"]) fun _ _ _ _ _ _ us hl => match us, hl with | [_, _], _ => rfl
  have F_gather0 := fun_mk (st := sGather0) l_gather0 c_gather0 k_gather0
  have b_gather0 := F_gather0.binds (ps := ["self", "found"]) fun _ _ _ _ _ _ us hl => match us, hl with | [_, _], _ => rfl
  have F_inner0 := fun_mk (st := sInner0) l_inner0 c_inner0 k_inner0
  have b_inner0 := F_inner0.binds (ps := ["self"]) fun _ _ _ _ _ _ us hl => match us, hl with | [_], _ => rfl
  have F_innerN := fun_mk (st := sInnerN) l_innerN c_innerN k_innerN
  have b_innerN := F_innerN.binds (ps := ["self"]) fun _ _ _ _ _ _ us hl => match us, hl with | [_], _ => rfl
  have F_innerG := fun_mk (st := sInnerG) l_innerG c_innerG k_innerG
  have b_innerG := F_innerG.binds (ps := ["self"]) fun _ _ _ _ _ _ us hl => match us, hl with | [_], _ => rfl
  have F_iFx := fun_mk (st := sFxInit) l_iFx c_iFx k_iFx
  have b_iFx := F_iFx.binds (ps := ["self", "value"]) fun _ _ _ _ _ _ us hl => match us, hl with | [_, _], _ => rfl
  have F_iCt := fun_mk (st := sCtInit) l_iCt c_iCt k_iCt
  have b_iCt := F_iCt.binds (ps := ["self", "name"]) fun _ _ _ _ _ _ us hl => match us, hl with | [_, _], _ => rfl
  have F_iNt := fun_mk (st := sNtInit) l_iNt c_iNt k_iNt
  have b_iNt := F_iNt.binds (ps := ["self", "part"]) fun _ _ _ _ _ _ us hl => match us, hl with | [_, _], _ => rfl
  have F_iGr := fun_mk (st := sGrInit) l_iGr c_iGr k_iGr
  have b_iGr := F_iGr.binds (ps := ["self", "parts"]) fun _ _ _ _ _ _ us hl => match us, hl with | [_, _], _ => rfl
  have F_iSh := fun_mk (st := sShInit) l_iSh c_iSh k_iSh
  have b_iSh := F_iSh.binds (ps := ["self", "names"]) fun _ _ _ _ _ _ us hl => match us, hl with | [_, _], _ => rfl
  have F_place := fun_mk (st := sPlace) l_place c_place k_place
  have b_place := F_place.binds (ps := ["self", "node"]) fun _ _ _ _ _ _ us hl => match us, hl with | [_, _], _ => rfl
  have F_made := fun_mk (st := sMade) l_made c_made k_made
  have b_made := F_made.binds (ps := ["self", "place", "low", "high"]) fun _ _ _ _ _ _ us hl => match us, hl with | [_, _, _, _], _ => rfl
  have F_below := fun_mk (st := sBelow) l_below c_below k_below
  have b_below := F_below.binds (ps := ["self", "node", "place"]) fun _ _ _ _ _ _ us hl => match us, hl with | [_, _, _], _ => rfl
  have F_sjoined := fun_mk (st := sJoined) l_sjoined c_sjoined k_sjoined
  have b_sjoined := F_sjoined.binds (ps := ["self", "one", "other", "stop", "known"]) fun _ _ _ _ _ _ us hl => match us, hl with | [_, _, _, _, _], _ => rfl
  have F_opp := fun_mk (st := sOpp) l_opp c_opp k_opp
  have b_opp := F_opp.binds (ps := ["self", "node", "known"]) fun _ _ _ _ _ _ us hl => match us, hl with | [_, _, _], _ => rfl
  have F_drawn := fun_mk (st := sDrawn) l_drawn c_drawn k_drawn
  have b_drawn := F_drawn.binds (ps := ["self", "part"]) fun _ _ _ _ _ _ us hl => match us, hl with | [_, _], _ => rfl
  have F_need := fun_mk (st := sNeed) l_need c_need k_need
  have b_need := F_need.binds (ps := ["self", "node"]) fun _ _ _ _ _ _ us hl => match us, hl with | [_, _], _ => rfl
  have F_node := fun_mk (st := sNode) l_node c_node k_node
  have b_node := F_node.binds (ps := ["self", "part"]) fun _ _ _ _ _ _ us hl => match us, hl with | [_, _], _ => rfl
  have F_two := fun_mk (st := sTwo) l_two c_two k_two
  have b_two := F_two.binds (ps := ["self", "one", "other", "stop"]) fun _ _ _ _ _ _ us hl => match us, hl with | [_, _, _, _], _ => rfl
  have F_both := fun_mk (st := sBoth) l_both c_both k_both
  have b_both := F_both.binds (ps := ["self", "one", "other"]) fun _ _ _ _ _ _ us hl => match us, hl with | [_, _, _], _ => rfl
  have F_either := fun_mk (st := sEither) l_either c_either k_either
  have b_either := F_either.binds (ps := ["self", "one", "other"]) fun _ _ _ _ _ _ us hl => match us, hl with | [_, _, _], _ => rfl
  have F_turned := fun_mk (st := sTurned) l_turned c_turned k_turned
  have b_turned := F_turned.binds (ps := ["self", "node"]) fun _ _ _ _ _ _ us hl => match us, hl with | [_, _], _ => rfl
  have F_shown := fun_mk (st := sShown) l_shown c_shown k_shown
  have b_shown := F_shown.binds (ps := ["self", "node"]) fun _ _ _ _ _ _ us hl => match us, hl with | [_, _], _ => rfl
  have D_isWord : DefAt K mg "is_word" sIsWord ["text"] := ⟨_, _, fun_mk (st := sIsWord) l_DisWord c_DisWord k_DisWord, PySem.W.mg_of X G d_isWord, (fun_mk (st := sIsWord) l_DisWord c_DisWord k_DisWord).binds fun _ _ _ _ _ _ us hl => match us, hl with | [_], _ => rfl⟩
  have D_isName : DefAt K mg "is_name" sIsName ["name"] := ⟨_, _, fun_mk (st := sIsName) l_DisName c_DisName k_DisName, PySem.W.mg_of X G d_isName, (fun_mk (st := sIsName) l_DisName c_DisName k_DisName).binds fun _ _ _ _ _ _ us hl => match us, hl with | [_], _ => rfl⟩
  have D_single : DefAt K mg "single" sSingle ["told"] := ⟨_, _, fun_mk (st := sSingle) l_Dsingle c_Dsingle k_Dsingle, PySem.W.mg_of X G d_single, (fun_mk (st := sSingle) l_Dsingle c_Dsingle k_Dsingle).binds fun _ _ _ _ _ _ us hl => match us, hl with | [_], _ => rfl⟩
  have D_join : DefAt K mg "joined" sJoin ["kind", "parts"] := ⟨_, _, fun_mk (st := sJoin) l_Djoin c_Djoin k_Djoin, PySem.W.mg_of X G d_join, (fun_mk (st := sJoin) l_Djoin c_Djoin k_Djoin).binds fun _ _ _ _ _ _ us hl => match us, hl with | [_, _], _ => rfl⟩
  have D_partOf : DefAt K mg "part_of" sPartOf ["told"] := ⟨_, _, fun_mk (st := sPartOf) l_DpartOf c_DpartOf k_DpartOf, PySem.W.mg_of X G d_partOf, (fun_mk (st := sPartOf) l_DpartOf c_DpartOf k_DpartOf).binds fun _ _ _ _ _ _ us hl => match us, hl with | [_], _ => rfl⟩
  have D_cell : DefAt K mg "_law_cell_at" sCellAt ["_law_script", "_law_k"] := ⟨_, _, fun_mk (st := sCellAt) l_Dcell c_Dcell k_Dcell, PySem.W.mg_of X G d_cell, (fun_mk (st := sCellAt) l_Dcell c_Dcell k_Dcell).binds fun _ _ _ _ _ _ us hl => match us, hl with | [_, _], _ => rfl⟩
  have D_mixed : DefAt K mg "_law_mixed" sMixed ["_law_cell", "_law_k"] := ⟨_, _, fun_mk (st := sMixed) l_Dmixed c_Dmixed k_Dmixed, PySem.W.mg_of X G d_mixed, (fun_mk (st := sMixed) l_Dmixed c_Dmixed k_Dmixed).binds fun _ _ _ _ _ _ us hl => match us, hl with | [_, _], _ => rfl⟩
  have D_word : DefAt K mg "_law_word" sWord ["_law_cell", "_law_size"] := ⟨_, _, fun_mk (st := sWord) l_Dword c_Dword k_Dword, PySem.W.mg_of X G d_word, (fun_mk (st := sWord) l_Dword c_Dword k_Dword).binds fun _ _ _ _ _ _ us hl => match us, hl with | [_, _], _ => rfl⟩
  have D_names : DefAt K mg "_law_names" sNames ["_law_cell", "_law_many"] := ⟨_, _, fun_mk (st := sNames) l_Dnames c_Dnames k_Dnames, PySem.W.mg_of X G d_names, (fun_mk (st := sNames) l_Dnames c_Dnames k_Dnames).binds fun _ _ _ _ _ _ us hl => match us, hl with | [_, _], _ => rfl⟩
  have D_grown : DefAt K mg "_law_grown" sGrown ["_law_pile", "_law_cell", "_law_names_here"] := ⟨_, _, fun_mk (st := sGrown) l_Dgrown c_Dgrown k_Dgrown, PySem.W.mg_of X G d_grown, (fun_mk (st := sGrown) l_Dgrown c_Dgrown k_Dgrown).binds fun _ _ _ _ _ _ us hl => match us, hl with | [_, _, _], _ => rfl⟩
  have D_toldBy : DefAt K mg "_law_told_by" sToldBy ["_law_script", "_law_first", "_law_many", "_law_names_here"] := ⟨_, _, fun_mk (st := sToldBy) l_DtoldBy c_DtoldBy k_DtoldBy, PySem.W.mg_of X G d_toldBy, (fun_mk (st := sToldBy) l_DtoldBy c_DtoldBy k_DtoldBy).binds fun _ _ _ _ _ _ us hl => match us, hl with | [_, _, _, _], _ => rfl⟩
  have D_holds : DefAt K mg "_law_holds" sHolds ["_law_told", "_law_row_here"] := ⟨_, _, fun_mk (st := sHolds) l_Dholds c_Dholds k_Dholds, PySem.W.mg_of X G d_holds, (fun_mk (st := sHolds) l_Dholds c_Dholds k_Dholds).binds fun _ _ _ _ _ _ us hl => match us, hl with | [_, _], _ => rfl⟩
  have D_row : DefAt K mg "_law_row" sRow ["_law_names_here", "_law_number"] := ⟨_, _, fun_mk (st := sRow) l_Drow c_Drow k_Drow, PySem.W.mg_of X G d_row, (fun_mk (st := sRow) l_Drow c_Drow k_Drow).binds fun _ _ _ _ _ _ us hl => match us, hl with | [_, _], _ => rfl⟩
  have D_down : DefAt K mg "_law_down" sDown ["_law_sheet", "_law_node", "_law_row_here"] := ⟨_, _, fun_mk (st := sDown) l_Ddown c_Ddown k_Ddown, PySem.W.mg_of X G d_down, (fun_mk (st := sDown) l_Ddown c_Ddown k_Ddown).binds fun _ _ _ _ _ _ us hl => match us, hl with | [_, _, _], _ => rfl⟩
  have D_whole : DefAt K mg "_law_whole" sWhole ["_law_found"] := ⟨_, _, fun_mk (st := sWhole) l_Dwhole c_Dwhole k_Dwhole, PySem.W.mg_of X G d_whole, (fun_mk (st := sWhole) l_Dwhole c_Dwhole k_Dwhole).binds fun _ _ _ _ _ _ us hl => match us, hl with | [_], _ => rfl⟩
  have D_law : DefAt K mg "law" sLaw ["_law_script"] := ⟨_, _, fun_mk (st := sLaw) l_Dlaw c_Dlaw k_Dlaw, PySem.W.mg_of X G d_law, (fun_mk (st := sLaw) l_Dlaw c_Dlaw k_Dlaw).binds fun _ _ _ _ _ _ us hl => match us, hl with | [_], _ => rfl⟩
  have cl_fx : Cls K C_fx := ⟨pg_fx, hd_fx, po_fx, sa_fx⟩
  have cl_ct : Cls K C_ct := ⟨pg_ct, hd_ct, po_ct, sa_ct⟩
  have cl_nt : Cls K C_nt := ⟨pg_nt, hd_nt, po_nt, sa_nt⟩
  have cl_se : Cls K C_se := ⟨pg_se, hd_se, po_se, sa_se⟩
  have cl_br : Cls K C_br := ⟨pg_br, hd_br, po_br, sa_br⟩
  have cl_sh : Cls K C_sh := ⟨pg_sh, hd_sh, po_sh, sa_sh⟩
  have TP : TxtP K mg (clOf C_fx C_ct C_nt C_se C_br) := {
    cls := fun k => match k with | .fx => cl_fx | .ct => cl_ct | .nt => cl_nt | .se => cl_se | .br => cl_br
    own := fun k => match k with | .fx => ⟨ha_fx, hn, htk, hm_fx⟩ | .ct => ⟨ha_ct, hn, htk, hm_ct⟩ | .nt => ⟨ha_nt, hn, htk, hm_nt⟩ | .se => ⟨ha_se, hn, htk, hm_se⟩ | .br => ⟨ha_br, hn, htk, hm_br⟩
    isFx := fun k => match k with | .fx => kit_self | .ct => kit_other ic_fx it_fx sb_ct_fx ne_ct_fx | .nt => kit_other ic_fx it_fx sb_nt_fx ne_nt_fx | .se => kit_other ic_fx it_fx sb_se_fx ne_se_fx | .br => kit_other ic_fx it_fx sb_br_fx ne_br_fx
    isCt := fun k => match k with | .fx => kit_other ic_ct it_ct sb_fx_ct ne_fx_ct | .ct => kit_self | .nt => kit_other ic_ct it_ct sb_nt_ct ne_nt_ct | .se => kit_other ic_ct it_ct sb_se_ct ne_se_ct | .br => kit_other ic_ct it_ct sb_br_ct ne_br_ct
    isNt := fun k => match k with | .fx => kit_other ic_nt it_nt sb_fx_nt ne_fx_nt | .ct => kit_other ic_nt it_nt sb_ct_nt ne_ct_nt | .nt => kit_self | .se => kit_other ic_nt it_nt sb_se_nt ne_se_nt | .br => kit_other ic_nt it_nt sb_br_nt ne_br_nt
    isSe := fun k => match k with | .fx => kit_other ic_se it_se sb_fx_se ne_fx_se | .ct => kit_other ic_se it_se sb_ct_se ne_ct_se | .nt => kit_other ic_se it_se sb_nt_se ne_nt_se | .se => kit_self | .br => kit_other ic_se it_se sb_br_se ne_br_se
    nV := nV
    nN := nN
    nP := nP
    nS := nS
    nB := nB
    size := fun k => match k with | .fx => ⟨_, _, ⟨m_size_fx, i_size, F_size.kp⟩, F_size, b_size⟩ | .ct => ⟨_, _, ⟨m_size_ct, i_size, F_size.kp⟩, F_size, b_size⟩ | .nt => ⟨_, _, ⟨m_size_nt, i_size, F_size.kp⟩, F_size, b_size⟩ | .se => ⟨_, _, ⟨m_size_se, i_size, F_size.kp⟩, F_size, b_size⟩ | .br => ⟨_, _, ⟨m_size_br, i_size, F_size.kp⟩, F_size, b_size⟩
    depth := fun k => match k with | .fx => ⟨_, _, ⟨m_depth_fx, i_depth, F_depth.kp⟩, F_depth, b_depth⟩ | .ct => ⟨_, _, ⟨m_depth_ct, i_depth, F_depth.kp⟩, F_depth, b_depth⟩ | .nt => ⟨_, _, ⟨m_depth_nt, i_depth, F_depth.kp⟩, F_depth, b_depth⟩ | .se => ⟨_, _, ⟨m_depth_se, i_depth, F_depth.kp⟩, F_depth, b_depth⟩ | .br => ⟨_, _, ⟨m_depth_br, i_depth, F_depth.kp⟩, F_depth, b_depth⟩
    contacts := fun k => match k with | .fx => ⟨_, _, ⟨m_contacts_fx, i_contacts, F_contacts.kp⟩, F_contacts, b_contacts⟩ | .ct => ⟨_, _, ⟨m_contacts_ct, i_contacts, F_contacts.kp⟩, F_contacts, b_contacts⟩ | .nt => ⟨_, _, ⟨m_contacts_nt, i_contacts, F_contacts.kp⟩, F_contacts, b_contacts⟩ | .se => ⟨_, _, ⟨m_contacts_se, i_contacts, F_contacts.kp⟩, F_contacts, b_contacts⟩ | .br => ⟨_, _, ⟨m_contacts_br, i_contacts, F_contacts.kp⟩, F_contacts, b_contacts⟩
    bounded := fun k => match k with | .fx => ⟨_, _, ⟨m_bounded_fx, i_bounded, F_bounded.kp⟩, F_bounded, b_bounded⟩ | .ct => ⟨_, _, ⟨m_bounded_ct, i_bounded, F_bounded.kp⟩, F_bounded, b_bounded⟩ | .nt => ⟨_, _, ⟨m_bounded_nt, i_bounded, F_bounded.kp⟩, F_bounded, b_bounded⟩ | .se => ⟨_, _, ⟨m_bounded_se, i_bounded, F_bounded.kp⟩, F_bounded, b_bounded⟩ | .br => ⟨_, _, ⟨m_bounded_br, i_bounded, F_bounded.kp⟩, F_bounded, b_bounded⟩
    gatherC := ⟨_, _, ⟨m_gatherC_ct, i_gatherC, F_gatherC.kp⟩, F_gatherC, b_gatherC⟩
    gather0 := fun k hk => match k, hk with | .fx, hk => ⟨_, _, ⟨m_gather0_fx, i_gather0, F_gather0.kp⟩, F_gather0, b_gather0⟩ | .ct, hk => absurd rfl hk | .nt, hk => ⟨_, _, ⟨m_gather0_nt, i_gather0, F_gather0.kp⟩, F_gather0, b_gather0⟩ | .se, hk => ⟨_, _, ⟨m_gather0_se, i_gather0, F_gather0.kp⟩, F_gather0, b_gather0⟩ | .br, hk => ⟨_, _, ⟨m_gather0_br, i_gather0, F_gather0.kp⟩, F_gather0, b_gather0⟩
    inner0 := fun k hk => by rcases hk with rfl | rfl; exact ⟨_, _, ⟨m_inner0_fx, i_inner0, F_inner0.kp⟩, F_inner0, b_inner0⟩; exact ⟨_, _, ⟨m_inner0_ct, i_inner0, F_inner0.kp⟩, F_inner0, b_inner0⟩
    innerN := ⟨_, _, ⟨m_innerN_nt, i_innerN, F_innerN.kp⟩, F_innerN, b_innerN⟩
    innerG := fun k hk => by rcases hk with rfl | rfl; exact ⟨_, _, ⟨m_innerG_se, i_innerG, F_innerG.kp⟩, F_innerG, b_innerG⟩; exact ⟨_, _, ⟨m_innerG_br, i_innerG, F_innerG.kp⟩, F_innerG, b_innerG⟩
    mkFx := ⟨⟨_, _, ⟨mk_fx, m_iFx_fx, i_iFx, kc_fx⟩, PySem.W.mg_of X G a_fx, F_iFx, b_iFx⟩⟩
    mkCt := ⟨⟨_, _, ⟨mk_ct, m_iCt_ct, i_iCt, kc_ct⟩, PySem.W.mg_of X G a_ct, F_iCt, b_iCt⟩⟩
    mkNt := ⟨⟨_, _, ⟨mk_nt, m_iNt_nt, i_iNt, kc_nt⟩, PySem.W.mg_of X G a_nt, F_iNt, b_iNt⟩⟩
    mkSe := ⟨⟨_, _, ⟨mk_se, m_iGr_se, i_iGr, kc_se⟩, PySem.W.mg_of X G a_se, F_iGr, b_iGr⟩⟩
    mkBr := ⟨⟨_, _, ⟨mk_br, m_iGr_br, i_iGr, kc_br⟩, PySem.W.mg_of X G a_br, F_iGr, b_iGr⟩⟩
    isWord := D_isWord
    isName := D_isName
    single := D_single
    join := D_join
    partOf := D_partOf
    len := PySem.W.mg_none_of X G z_len
    sum := PySem.W.mg_none_of X G z_sum
    max := PySem.W.mg_none_of X G z_max
    tuple := PySem.W.mg_none_of X G z_tuple
    set := PySem.W.mg_none_of X G z_set
    isi := PySem.W.mg_none_of X G z_isinstance
    min := PySem.W.mg_none_of X G z_min
    int := PySem.W.mg_none_of X G z_int
    range := PySem.W.mg_none_of X G z_range
    bool := PySem.W.mg_none_of X G z_bool
    SIGNS := ⟨_, PySem.W.mg_of X G v_SIGNS, _, rfl⟩
    MSIGNS := ⟨_, PySem.W.mg_of X G v_MOST_SIGNS, _, rfl⟩
    MSIZE := ⟨_, PySem.W.mg_of X G v_MOST_SIZE, _, rfl⟩
    MDEEP := ⟨_, PySem.W.mg_of X G v_MOST_DEEP, _, rfl⟩
    MNAMES := ⟨_, PySem.W.mg_of X G v_MOST_NAMES, _, rfl⟩
    MNODES := ⟨_, PySem.W.mg_of X G v_MOST_NODES, _, rfl⟩
    KEPT := ⟨_, PySem.W.mg_of X G aK, fun H => .inr ⟨_, _, _, lK, rfl, rfl, zK, relsB_of rK⟩⟩ }
  have TS : TxtS K mg C_sh := {
    cls := cl_sh
    nM := sM
    nN := sN
    nU := sU
    init := ⟨⟨_, _, ⟨mk_sh, m_iSh_sh, i_iSh, kc_sh⟩, PySem.W.mg_of X G a_sh, F_iSh, b_iSh⟩⟩
    place := ⟨⟨_, _, ⟨m_place_sh, i_place, F_place.kp⟩, F_place, b_place⟩⟩
    made := ⟨⟨_, _, ⟨m_made_sh, i_made, F_made.kp⟩, F_made, b_made⟩⟩
    below := ⟨⟨_, _, ⟨m_below_sh, i_below, F_below.kp⟩, F_below, b_below⟩⟩
    joined := ⟨⟨_, _, ⟨m_sjoined_sh, i_sjoined, F_sjoined.kp⟩, F_sjoined, b_sjoined⟩⟩
    opp := ⟨⟨_, _, ⟨m_opp_sh, i_opp, F_opp.kp⟩, F_opp, b_opp⟩⟩
    drawn := ⟨⟨_, _, ⟨m_drawn_sh, i_drawn, F_drawn.kp⟩, F_drawn, b_drawn⟩⟩
    need := ⟨⟨_, _, ⟨m_need_sh, i_need, F_need.kp⟩, F_need, b_need⟩⟩
    node := ⟨⟨_, _, ⟨m_node_sh, i_node, F_node.kp⟩, F_node, b_node⟩⟩
    two := ⟨⟨_, _, ⟨m_two_sh, i_two, F_two.kp⟩, F_two, b_two⟩⟩
    both := ⟨⟨_, _, ⟨m_both_sh, i_both, F_both.kp⟩, F_both, b_both⟩⟩
    either := ⟨⟨_, _, ⟨m_either_sh, i_either, F_either.kp⟩, F_either, b_either⟩⟩
    turned := ⟨⟨_, _, ⟨m_turned_sh, i_turned, F_turned.kp⟩, F_turned, b_turned⟩⟩
    shown := ⟨⟨_, _, ⟨m_shown_sh, i_shown, F_shown.kp⟩, F_shown, b_shown⟩⟩ }
  have TL : TxtL K mg := ⟨D_cell, D_mixed, D_word, D_names, D_grown, D_toldBy, D_holds, D_row, D_down, D_whole, D_law⟩
  exact ⟨PySem.W.fnOf "law" "law" (defArgs sLaw) (defBody sLaw) (defScope sLaw) .none kV_Dlaw dc_Dlaw pm_Dlaw an_Dlaw cd_Dlaw ct2_Dlaw, fun s v => .of_eq rfl, fun base _ _ => ok_law TP TS TL (fun_mk (st := sLaw) l_Dlaw c_Dlaw k_Dlaw)⟩
theorem walk {l : PySem.W.OpenLaw} {q : Program} {loose : List Str} {XP : (Str → Option Value) → Heap → Prop} {YP : World → Heap → Prop} {d : DefRec} {K : Params → PySem.W.Frag} (hn : l.most = some 63) (hdf : d.params.defaults = [])
    (hY : ∀ (w : World) (h : Heap), YP w h → (K w.params).In h)
    (F : ∀ (w : World) (mg : Str → Option Value) (fa : Addr) (h : Heap), (K w.params).In h → h.Ns mainGlobals mg → mg d.name = some (.ref fa) →
      ∃ fd : FuncData, (∀ (s : Shared) (u : Value), BindsTo s fd ⟨[u], []⟩ [("_law_script", u)]) ∧ ∀ base : Heap, (K w.params).In base → base.Ns mainGlobals mg → FnOk l.prog w (K w.params) mg base CX0 31 fa fd ["_law_script"] (spLaw (K w.params))) :
    PySem.W.WalkO q loose XP YP l.row.toRowW d [] (fun f vs => PySem.call f vs) :=
  L2.walk_of (n := 63) (k := 31) (x := "_law_script") (CX := fun _ => CX0) (sp := fun w => spLaw (K w.params)) hn (by decide) hdf ⟨rfl, by decide, by decide⟩ hY F (fun _ _ a ns hl _ hS => ⟨a, ns, rfl, hS, hl, fun _ => rfl⟩) fun _ _ _ _ _ z => z
end Rw
open PySem PySem.W PyProof.Rows in
set_option maxRecDepth 100000 in
set_option maxHeartbeats 0 in
theorem PySem.Challenge.cw_rungworks_k32_two_nodes_holds : PySem.Challenge.rw_rungworks_k32_two_nodes.Holds := by
  w_on; o_law; k_head; (case hw => w_witness2)
  k_fill
  refine Rw.walk (l := PySem.Challenge.rw_rungworks_k32_two_nodes) rfl rfl (fun w h Y => PySem.W.kIn_of Y) ?F
  case F =>
    intro w mg fa h KX G hmg
    exact Rw.all_mk KX G hmg
      (by k_is) (by k_is) (by k_is) (by k_is) (by k_is) (by k_is) (by k_is) (by k_is) (by k_is) (by k_is) (by k_is) (by k_is)
      (by k_is) (by k_is) (by k_is) (by k_is) (by k_is) (by k_is) (by k_is) (by k_is) (by k_is) (by k_is) (by k_is) (by k_is)
      (by k_is) (by k_is) (by k_is) (by k_is) (by k_is) (by k_is) (by k_is) (by k_is) (by k_is) (by k_is) (by k_is) (by k_is)
      (by k_is) (by k_is) (by k_is) (by k_is) (by k_is) (by k_is) (by k_is) (by k_is) (by k_is) (by k_is) (by k_is) (by k_is)
      (by k_is) (by k_is) (by k_is) (by k_is) (by k_is) (by k_is) (by k_is) (by k_is) (by k_is) (by k_is) (by k_is) (by k_is)
      (by k_is) (by k_is) (by k_is) (by k_is) (by k_is) (by k_is) (by k_is) (by k_is) (by k_is) (by k_is) (by k_is) (by k_is)
      (by k_is) (by k_is) (by k_is) (by k_is) (by k_is) (by k_is) (by k_is) (by k_is) (by k_is) (by k_is) (by k_is) (by k_is)
      (by k_is) (by k_is) (by k_is) (by k_is) (by k_is) (by k_is) (by k_is) (by k_is) (by k_is) (by k_is) (by k_is) (by k_is)
      (by k_is) (by k_is) (by k_is) (by k_is) (by k_is) (by k_is) (by k_is) (by k_is) (by k_is) (by k_is) (by k_is) (by k_is)
      (by k_is) (by k_is) (by k_is) (by k_is) (by k_is) (by k_is) (by k_is) (by k_is) (by k_is) (by k_is) (by k_is) (by k_is)
      (by k_is) (by k_is) (by k_is) (by k_is) (by k_is) (by k_is) (by k_is) (by k_is) (by k_is) (by k_is) (by k_is) (by k_is)
      (by k_is) (by k_is) (by k_is) (by k_is) (by k_is) (by k_is) (by k_is) (by k_is) (by k_is) (by k_is) (by k_is) (by k_is)
      (by k_is) (by k_is) (by k_is) (by k_is) (by k_is) (by k_is) (by k_is) (by k_is) (by k_is) (by k_is) (by k_is) (by k_is)
      (by k_is) (by k_is) (by k_is) (by k_is) (by k_is) (by k_is) (by k_is) (by k_is) (by k_is) (by k_is) (by k_is) (by k_is)
      (by k_is) (by k_is) (by k_is) (by k_is) (by k_is) (by k_is) (by k_is) (by k_is) (by k_is) (by k_is) (by k_is) (by k_is)
      (by k_is) (by k_is) (by k_is) (by k_is) (by k_is) (by k_is) (by k_is) (by k_is) (by k_is) (by k_is) (by k_is) (by k_is)
      (by k_is) (by k_is) (by k_is) (by k_is) (by k_is) (by k_is) (by k_is) (by k_is) (by k_is) (by k_is) (by k_is) (by k_is)
      (by k_is) (by k_is) (by k_is) (by k_is) (by k_is) (by k_is) (by k_is) (by k_is) (by k_is) (by k_is) (by k_is) (by k_is)
      (by k_is) (by k_is) (by k_is) (by k_is) (by k_is) (by k_is) (by k_is) (by k_is) (by k_is) (by k_is) (by k_is) (by k_is)
      (by k_is) (by k_is) (by k_is) (by k_is) (by k_is) (by k_is) (by k_is) (by k_is) (by k_is) (by k_is) (by k_is) (by k_is)
      (by k_is) (by k_is) (by k_is) (by k_is) (by k_is) (by k_is) (by k_is) (by k_is) (by k_is) (by k_is) (by k_is) (by k_is)
      (by k_is) (by k_is) (by k_is) (by k_is) (by k_is) (by k_is) (by k_is) (by k_is) (by k_is) (by k_is) (by k_is) (by k_is)
      (by k_is) (by k_is) (by k_is) (by k_is) (by k_is) (by k_is) (by k_is) (by k_is) (by k_is) (by k_is) (by k_is) (by k_is)
      (by k_is) (by k_is) (by decide) (by k_is) (by decide) (by k_is) (by decide) (by k_is) (by decide) (by k_is) (by k_is) (by k_is)
      (by decide) (by k_is) (by decide) (by k_is) (by decide) (by k_is) (by decide) (by k_is) (by k_is) (by k_is) (by decide) (by k_is)
      (by decide) (by k_is) (by decide) (by k_is) (by decide) (by k_is) (by k_is) (by k_is) (by decide) (by k_is) (by decide) (by k_is)
      (by decide) (by k_is) (by decide) (by k_is) (by k_is) (by k_is) (by k_is) (by k_is) (by k_is) (by k_is) (by k_is) (by k_is)
      (by k_is) (by k_is) (by k_is) (by k_is) (by k_is) (by k_is) (by k_is) (by k_is) (by k_is) (by k_is) (by k_is) (by k_is)
      (by k_is) (by k_is) (by k_is) (by k_is) (by k_is) (by decide +kernel) (by decide +kernel)
