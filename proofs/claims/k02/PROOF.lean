import PyProof.Rows.All
import Wide.All
import OpenK.AllK
import Wide.FinOn
import HandS.ForMost
import HandS.Zip
import HandS.IsInst
import HandS.Wide
import HandS.TupAny
import HandS.TupMul
import HandS.Flow
import HandS.Conv
import PySem.Challenge.RW_surepilot_k02_whole_ratios_of_any_size
set_option Elab.async false
set_option linter.all false
set_option maxRecDepth 100000
set_option maxHeartbeats 1000000
namespace FL
open PySem L2

/-! data in place of heaps: a slot holds a datum, or a cell of the store (a list that is still written) -/
inductive S where
  | d (x : PyData)
  | ref (n : Nat)
abbrev Sto := List (Option (List S))
abbrev Ev := List (Option S)
abbrev si (i : Int) : S := .d (.int i)
abbrev sb (b : Bool) : S := .d (.bool b)

theorem nodup_get : ∀ {l : List Addr} {i j : Nat} {a : Addr}, l.Nodup → l[i]? = some a → l[j]? = some a → i = j
  | [], i, j, a, _, h, _ => by simp at h
  | b :: l, 0, 0, a, _, _, _ => rfl
  | b :: l, 0, j + 1, a, n, h1, h2 => by
    simp at h1 h2
    subst h1
    exact absurd (List.mem_of_getElem? h2) (List.nodup_cons.mp n).1
  | b :: l, i + 1, 0, a, n, h1, h2 => by
    simp at h1 h2
    subst h2
    exact absurd (List.mem_of_getElem? h1) (List.nodup_cons.mp n).1
  | b :: l, i + 1, j + 1, a, n, h1, h2 => by
    simp at h1 h2
    rw [nodup_get (List.nodup_cons.mp n).2 h1 h2]
section
variable {K : PySem.W.Frag} {G G1 G2 H H1 H2 : Hp} {π π1 π2 : List Addr} {cs cs1 cs2 : Sto} {v w : V} {x y : S} {vs ws : List V} {xs ys : List S} {σ : L2.St} {ρ : Ev}

theorem seqT_mono {a : Addr} (e : Same G G1) (h : SqT K G a vs) : SqT K G1 a vs := by
  rcases h with (h | ⟨o, h⟩) | h
  · exact .inl (.inl (e _ _ h))
  · exact .inl (.inr ⟨o, e _ _ h⟩)
  · exact .inr h
mutual
theorem dp_mono (e : Same G G1) : ∀ {v : V} {d : PyData}, Dp K G v d → Dp K G1 v d
  | _, _, .non => .non
  | _, _, .bl b => .bl b
  | _, _, .int i => .int i
  | _, _, .str x => .str x
  | _, _, .lst h r => .lst (e.seq h) (dpAll_mono e r)
  | _, _, .tup h r => .tup (seqT_mono e h) (dpAll_mono e r)
theorem dpAll_mono (e : Same G G1) : ∀ {vs : List V} {ds : List PyData}, DpAll K G vs ds → DpAll K G1 vs ds
  | _, _, .nil => .nil
  | _, _, .cons h r => .cons (dp_mono e h) (dpAll_mono e r)
end

inductive RepS (K : PySem.W.Frag) (G : Hp) (π : List Addr) : V → S → Prop
  | d {v : V} {x : PyData} (h : Dp K G v x) : RepS K G π v (.d x)
  | ref {n : Nat} {a : Addr} (h : π[n]? = some a) : RepS K G π (.ref a) (.ref n)
abbrev RepL (K : PySem.W.Frag) (G : Hp) (π : List Addr) : List V → List S → Prop := Paired (RepS K G π)

theorem RepS.mono (e : Same G G1) (p : ∃ πn, π1 = π ++ πn) (h : RepS K G π v x) : RepS K G1 π1 v x := by
  obtain ⟨πn, rfl⟩ := p
  cases h with
  | d h => exact .d (dp_mono e h)
  | ref h => exact .ref (by rw [List.getElem?_append_left (List.getElem?_eq_some_iff.mp h).1]; exact h)
theorem RepL.mono (e : Same G G1) (p : ∃ πn, π1 = π ++ πn) (h : RepL K G π vs xs) : RepL K G1 π1 vs xs := Paired.mapP h fun _ _ q => q.mono e p
theorem repL_d : ∀ {vs : List V} {ds : List PyData}, DpAll K G vs ds → RepL K G π vs (ds.map S.d)
  | _, _, .nil => .nil
  | _, _, .cons h r => .cons (.d h) (repL_d r)
theorem dpAll_of : ∀ {ds : List PyData} {vs : List V}, RepL K G π vs (ds.map S.d) → DpAll K G vs ds
  | [], _, h => by cases h; exact .nil
  | d :: ds, _, h => by
    cases h with
    | cons h r =>
      cases h with
      | d h => exact .cons h (dpAll_of r)
theorem RepL.len (h : RepL K G π vs xs) : vs.length = xs.length := Paired.length h
theorem RepL.get : ∀ {vs : List V} {xs : List S} {i : Nat} {x : S}, RepL K G π vs xs → xs[i]? = some x → ∃ v, vs[i]? = some v ∧ RepS K G π v x
  | _, _, i, x, .nil, e => by simp at e
  | _, _, 0, x, .cons h r, e => by simp at e; subst e; exact ⟨_, rfl, h⟩
  | _, _, i + 1, x, .cons h r, e => by
    obtain ⟨u, h1, h2⟩ := RepL.get (i := i) (x := x) r (by simpa using e)
    exact ⟨u, by simpa using h1, h2⟩
theorem DpAll.len : ∀ {vs : List V} {ds : List PyData}, DpAll K G vs ds → vs.length = ds.length
  | _, _, .nil => rfl
  | _, _, .cons _ r => by simp [DpAll.len r]
theorem DpAll.get : ∀ {vs : List V} {ds : List PyData} {i : Nat} {d : PyData}, DpAll K G vs ds → ds[i]? = some d → ∃ v, vs[i]? = some v ∧ Dp K G v d
  | _, _, i, x, .nil, e => by simp at e
  | _, _, 0, x, .cons h r, e => by simp at e; subst e; exact ⟨_, rfl, h⟩
  | _, _, i + 1, x, .cons h r, e => by
    obtain ⟨u, h1, h2⟩ := DpAll.get (i := i) (d := x) r (by simpa using e)
    exact ⟨u, by simpa using h1, h2⟩
theorem RepL.app : ∀ {vs ws : List V} {xs ys : List S}, RepL K G π vs xs → RepL K G π ws ys → RepL K G π (vs ++ ws) (xs ++ ys)
  | _, _, _, _, .nil, s => s
  | _, _, _, _, .cons r t, s => .cons r (RepL.app t s)
theorem RepL.set : ∀ {vs : List V} {xs : List S} (i : Nat), RepL K G π vs xs → RepS K G π v x → RepL K G π (vs.set i v) (xs.set i x)
  | _, _, _, .nil, _ => .nil
  | _, _, 0, .cons _ t, r => .cons r t
  | _, _, i + 1, .cons q t, r => .cons q (RepL.set i t r)
theorem DpAll.take : ∀ {vs : List V} {ds : List PyData} (n : Nat), DpAll K G vs ds → DpAll K G (vs.take n) (ds.take n)
  | _, _, 0, _ => .nil
  | _, _, _ + 1, .nil => .nil
  | _, _, n + 1, .cons r t => .cons r (DpAll.take n t)
theorem DpAll.drop : ∀ {vs : List V} {ds : List PyData} (n : Nat), DpAll K G vs ds → DpAll K G (vs.drop n) (ds.drop n)
  | _, _, 0, r => r
  | _, _, _ + 1, .nil => .nil
  | _, _, n + 1, .cons _ t => DpAll.drop n t
theorem DpAll.app : ∀ {vs ws : List V} {ds es : List PyData}, DpAll K G vs ds → DpAll K G ws es → DpAll K G (vs ++ ws) (ds ++ es)
  | _, _, _, _, .nil, s => s
  | _, _, _, _, .cons r t, s => .cons r (DpAll.app t s)

/-- G: what is known for ever; the cells of the store at the addresses π -/
structure At (K : PySem.W.Frag) (G : Hp) (π : List Addr) (cs : Sto) (H : Hp) : Prop where
  kn : Same G H
  len : π.length = cs.length
  nd : π.Nodup
  tr : ∀ a ∈ π, ∃ o, H a = some o
  st : ∀ (n : Nat) (a : Addr) (xs : List S), π[n]? = some a → cs[n]? = some (some xs) → G a = none ∧ ∃ vs, H a = some (.lst vs) ∧ RepL K G π vs xs
structure Ext (G : Hp) (π : List Addr) (H G' : Hp) (π' : List Addr) (H' : Hp) : Prop where
  g : Same G G'
  p : ∃ πn, π' = π ++ πn ∧ ∀ a ∈ πn, H a = none
  f : ∀ a o, a ∉ π → H a = some o → H' a = some o
  dm : ∀ a, H' a = none → H a = none
  gn : ∀ a o, G' a = some o → G a = some o ∨ H a = none ∨ a ∈ π
theorem Ext.refl : Ext G π H G π H := ⟨Same.refl _, ⟨[], by simp, by simp⟩, fun _ _ _ e => e, fun _ e => e, fun _ _ e => .inl e⟩
theorem Ext.trans (a : Ext G π H G1 π1 H1) (b : Ext G1 π1 H1 G2 π2 H2) : Ext G π H G2 π2 H2 := by
  obtain ⟨p1, e1, f1⟩ := a.p
  obtain ⟨p2, e2, f2⟩ := b.p
  refine ⟨a.g.trans b.g, ⟨p1 ++ p2, by rw [e2, e1, List.append_assoc], fun c hc => ?_⟩, fun c o hc e => ?_, fun c e => a.dm c (b.dm c e), fun c o e => ?_⟩
  rotate_left 2
  · rcases b.gn c o e with h | h | h
    · exact a.gn c o h
    · exact .inr (.inl (a.dm c h))
    · rw [e1] at h
      rcases List.mem_append.mp h with h | h
      · exact .inr (.inr h)
      · exact .inr (.inl (f1 c h))
  · rcases List.mem_append.mp hc with hc | hc
    · exact f1 c hc
    · exact a.dm c (f2 c hc)
  · refine b.f c o (fun hm => ?_) (a.f c o hc e)
    rw [e1] at hm
    rcases List.mem_append.mp hm with hm | hm
    · exact hc hm
    · rw [f1 c hm] at e; cases e
theorem Ext.pp (a : Ext G π H G1 π1 H1) : ∃ πn, π1 = π ++ πn := let ⟨q, e, _⟩ := a.p; ⟨q, e⟩
theorem RepS.ext (a : Ext G π H G1 π1 H1) (h : RepS K G π v x) : RepS K G1 π1 v x := h.mono a.g a.pp
theorem RepL.ext (a : Ext G π H G1 π1 H1) (h : RepL K G π vs xs) : RepL K G1 π1 vs xs := RepL.mono a.g a.pp h
theorem At.free (A : At K G π cs H) {p : Addr} (hp : H p = none) : G p = none := A.kn.free hp
theorem At.nin (A : At K G π cs H) {p : Addr} (hp : H p = none) : p ∉ π := fun hm => by
  obtain ⟨o, e⟩ := A.tr p hm
  rw [e] at hp; cases hp
theorem At.ne (A : At K G π cs H) {p a : Addr} {n : Nat} (hp : H p = none) (ha : π[n]? = some a) : a ≠ p := fun e => A.nin hp (e ▸ List.mem_of_getElem? ha)
theorem same_new {p : Addr} {o : HO} (h : G p = none) : Same G (upd G p o) := fun b u e => by rw [upd_ne (ne_of_none e h)]; exact e
/-- a new object that stays -/
theorem At.new (A : At K G π cs H) {p : Addr} (hp : H p = none) (o : HO) : At K (upd G p o) π cs (upd H p o) ∧ Ext G π H (upd G p o) π (upd H p o) := by
  have hg := A.free hp
  refine ⟨⟨fun b u e => ?_, A.len, A.nd, fun a ha => ?_, fun n a xs h1 h2 => ?_⟩, ⟨same_new hg, ⟨[], by simp, by simp⟩, fun a u _ e => by rw [upd_ne (ne_of_none e hp)]; exact e, fun a e => ?_, fun a u e => ?_⟩⟩
  rotate_right 1
  · by_cases hb : a = p
    · subst hb; exact .inr (.inl hp)
    · rw [upd_ne hb] at e; exact .inl e
  · by_cases hb : b = p
    · subst hb; rw [upd_same] at e ⊢; exact e
    · rw [upd_ne hb] at e ⊢; exact A.kn b u e
  · obtain ⟨u, e⟩ := A.tr a ha
    exact ⟨u, by rw [upd_ne (ne_of_none e hp)]; exact e⟩
  · obtain ⟨g, vs, e, r⟩ := A.st n a xs h1 h2
    have hne := A.ne hp h1
    exact ⟨by rw [upd_ne hne]; exact g, vs, by rw [upd_ne hne]; exact e, RepL.mono (same_new hg) ⟨[], by simp⟩ r⟩
  · by_cases hb : a = p
    · subst hb; exact hp
    · rw [upd_ne hb] at e; exact e
/-- a new object that nobody knows -/
theorem At.junk (A : At K G π cs H) {p : Addr} (hp : H p = none) (o : HO) : At K G π cs (upd H p o) ∧ Ext G π H G π (upd H p o) := by
  refine ⟨⟨fun b u e => by rw [upd_ne (ne_of_none (A.kn b u e) hp)]; exact A.kn b u e, A.len, A.nd, fun a ha => ?_, fun n a xs h1 h2 => ?_⟩, ⟨Same.refl _, ⟨[], by simp, by simp⟩, fun a u _ e => by rw [upd_ne (ne_of_none e hp)]; exact e, fun a e => ?_, fun _ _ e => .inl e⟩⟩
  · obtain ⟨u, e⟩ := A.tr a ha
    exact ⟨u, by rw [upd_ne (ne_of_none e hp)]; exact e⟩
  · obtain ⟨g, vs, e, r⟩ := A.st n a xs h1 h2
    exact ⟨g, vs, by rw [upd_ne (A.ne hp h1)]; exact e, r⟩
  · by_cases hb : a = p
    · subst hb; exact hp
    · rw [upd_ne hb] at e; exact e
/-- a list that stands becomes a cell -/
theorem At.cell (A : At K G π cs H) {p : Addr} (hp : G p = none) (hn : p ∉ π) (e : H p = some (.lst vs)) (r : RepL K G π vs xs) : At K G (π ++ [p]) (cs ++ [some xs]) H := by
  refine ⟨A.kn, by simp [A.len], List.nodup_append.mpr ⟨A.nd, by simp, fun a ha b hb => by
    have : b = p := by simpa using hb
    subst this; exact fun q => hn (q ▸ ha)⟩, fun a ha => ?_, fun n a ys h1 h2 => ?_⟩
  · rcases List.mem_append.mp ha with ha | ha
    · exact A.tr a ha
    · have : a = p := by simpa using ha
      subst this; exact ⟨_, e⟩
  · by_cases hlt : n < π.length
    · rw [List.getElem?_append_left hlt] at h1
      rw [List.getElem?_append_left (by rw [← A.len]; exact hlt)] at h2
      obtain ⟨g, ws, e, r⟩ := A.st n a ys h1 h2
      exact ⟨g, ws, e, RepL.mono (Same.refl _) ⟨[p], rfl⟩ r⟩
    · have hn : n = π.length := by
        have := (List.getElem?_eq_some_iff.mp h1).1
        simp at this; omega
      subst hn
      rw [List.getElem?_append_right (Nat.le_refl _), Nat.sub_self] at h1
      rw [A.len, List.getElem?_append_right (Nat.le_refl _), Nat.sub_self] at h2
      simp at h1 h2
      subst h1 h2
      exact ⟨hp, vs, e, RepL.mono (Same.refl _) ⟨[p], rfl⟩ r⟩
/-- a new list that will be written -/
theorem At.newM (A : At K G π cs H) {p : Addr} (hp : H p = none) (r : RepL K G π vs xs) : At K G (π ++ [p]) (cs ++ [some xs]) (upd H p (.lst vs)) ∧ Ext G π H G (π ++ [p]) (upd H p (.lst vs)) := by
  obtain ⟨A1, E1⟩ := A.junk hp (.lst vs)
  refine ⟨A1.cell (A.free hp) (A.nin hp) upd_same r, ⟨Same.refl _, ⟨[p], rfl, fun a ha => ?_⟩, E1.f, E1.dm, fun _ _ e => .inl e⟩⟩
  have : a = p := by simpa using ha
  subst this; exact hp
/-- a cell is written -/
theorem At.put (A : At K G π cs H) {n : Nat} {a : Addr} (ha : π[n]? = some a) (hc : cs[n]? = some (some xs)) (r : RepL K G π ws ys) : At K G π (cs.set n (some ys)) (upd H a (.lst ws)) ∧ Ext G π H G π (upd H a (.lst ws)) := by
  obtain ⟨g, vs, e, _⟩ := A.st n a xs ha hc
  have hlt := (List.getElem?_eq_some_iff.mp ha).1
  refine ⟨⟨fun b u q => ?_, by simp [A.len], A.nd, fun b hb => ?_, fun m b zs h1 h2 => ?_⟩, ⟨Same.refl _, ⟨[], by simp, by simp⟩, fun b u hb q => ?_, fun b q => ?_, fun _ _ e => .inl e⟩⟩
  · rw [upd_ne (ne_of_none q g)]; exact A.kn b u q
  · by_cases hx : b = a
    · subst hx; exact ⟨_, upd_same⟩
    · rw [upd_ne hx]; exact A.tr b hb
  · by_cases hm : m = n
    · subst hm
      rw [ha] at h1; cases h1
      rw [List.getElem?_set_self (by rw [← A.len]; exact hlt)] at h2
      cases h2
      exact ⟨g, ws, upd_same, r⟩
    · rw [List.getElem?_set_ne (Ne.symm hm)] at h2
      have hx : b ≠ a := fun q => by
        subst q
        exact hm (nodup_get A.nd h1 ha)
      rw [upd_ne hx]
      exact A.st m b zs h1 h2
  · have hx : b ≠ a := fun q => hb (q ▸ List.mem_of_getElem? ha)
    rw [upd_ne hx]; exact q
  · by_cases hx : b = a
    · subst hx; rw [upd_same] at q; cases q
    · rw [upd_ne hx] at q; exact q
/-- a cell is written no more: it is a datum -/
theorem At.frz (A : At K G π cs H) {n : Nat} {a : Addr} {ds : List PyData} (ha : π[n]? = some a) (hc : cs[n]? = some (some (ds.map S.d))) :
    ∃ G', At K G' π (cs.set n none) H ∧ Ext G π H G' π H ∧ Dp K G' (.ref a) (.list ds) := by
  obtain ⟨g, vs, e, r⟩ := A.st n a _ ha hc
  have hlt := (List.getElem?_eq_some_iff.mp ha).1
  have sm : Same G (upd G a (.lst vs)) := same_new g
  refine ⟨upd G a (.lst vs), ⟨fun b u q => ?_, by simp [A.len], A.nd, A.tr, fun m b zs h1 h2 => ?_⟩, ⟨sm, ⟨[], by simp, by simp⟩, fun _ _ _ q => q, fun _ q => q, fun b u q => (by
    by_cases hb : b = a
    · subst hb; exact .inr (.inr (List.mem_of_getElem? ha))
    · rw [upd_ne hb] at q; exact .inl q)⟩, .lst (.of upd_same) (dpAll_mono sm (dpAll_of r))⟩
  · by_cases hb : b = a
    · subst hb; rw [upd_same] at q; cases q; exact e
    · rw [upd_ne hb] at q; exact A.kn b u q
  · have hm : m ≠ n := fun q => by
      subst q
      rw [List.getElem?_set_self (by rw [← A.len]; exact hlt)] at h2
      cases h2
    rw [List.getElem?_set_ne (Ne.symm hm)] at h2
    have hx : b ≠ a := fun q => by
      subst q
      exact hm (nodup_get A.nd h1 ha)
    obtain ⟨g2, ws, e2, r2⟩ := A.st m b zs h1 h2
    exact ⟨by rw [upd_ne hx]; exact g2, ws, e2, RepL.mono sm ⟨[], by simp⟩ r2⟩

/-! what a def hands back: cells made within may be forgotten -/
def Okx (n : Nat) : S → Prop
  | .d _ => True
  | .ref m => m < n
def Okc (n : Nat) (cs : Sto) : Prop := ∀ (k : Nat) (xs : List S), cs[k]? = some (some xs) → ∀ x ∈ xs, Okx n x
theorem repS_okx (h : RepS K G π v x) : Okx π.length x := by
  cases h with
  | d _ => trivial
  | ref h => exact (List.getElem?_eq_some_iff.mp h).1
theorem repL_okx : ∀ {vs : List V} {xs : List S}, RepL K G π vs xs → ∀ x ∈ xs, Okx π.length x
  | _, _, .nil, x, h => by cases h
  | _, _, .cons r t, x, h => by
    rcases List.mem_cons.mp h with rfl | h
    · exact repS_okx r
    · exact repL_okx t x h
theorem At.okc (A : At K G π cs H) : Okc cs.length cs := fun k xs e x hx => by
  have hk := (List.getElem?_eq_some_iff.mp e).1
  have hk' : k < π.length := by rw [A.len]; exact hk
  obtain ⟨_, vs, _, r⟩ := A.st k π[k] xs (by simp [hk']) e
  rw [← A.len]
  exact repL_okx r x hx
theorem repS_back {πn : List Addr} (h : RepS K G (π ++ πn) v x) (ok : Okx π.length x) : RepS K G π v x := by
  cases h with
  | d h => exact .d h
  | ref h =>
    rw [List.getElem?_append_left ok] at h
    exact .ref h
theorem repL_back {πn : List Addr} : ∀ {vs : List V} {xs : List S}, RepL K G (π ++ πn) vs xs → (∀ x ∈ xs, Okx π.length x) → RepL K G π vs xs
  | _, _, .nil, _ => .nil
  | _, _, .cons r t, h => .cons (repS_back r (h _ List.mem_cons_self)) (repL_back t fun x hx => h x (List.mem_cons_of_mem _ hx))
theorem At.drop {πn : List Addr} {gs : Sto} (A : At K G (π ++ πn) (cs ++ gs) H) (hl : π.length = cs.length) (ok : Okc cs.length cs) : At K G π cs H := by
  refine ⟨A.kn, hl, (List.nodup_append.mp A.nd).1, fun a ha => A.tr a (List.mem_append_left _ ha), fun n a xs h1 h2 => ?_⟩
  obtain ⟨g, vs, e, r⟩ := A.st n a xs (by rw [List.getElem?_append_left (List.getElem?_eq_some_iff.mp h1).1]; exact h1) (by rw [List.getElem?_append_left (List.getElem?_eq_some_iff.mp h2).1]; exact h2)
  exact ⟨g, vs, e, repL_back r fun x hx => by rw [hl]; exact ok n xs h2 x hx⟩
theorem okc_set {n m : Nat} {ys : List S} (h : Okc n cs) (hy : ∀ x ∈ ys, Okx n x) : Okc n (cs.set m (some ys)) := fun k xs e x hx => by
  by_cases hk : k = m
  · subst hk
    by_cases hl : k < cs.length
    · rw [List.getElem?_set_self hl] at e; cases e; exact hy x hx
    · rw [List.getElem?_eq_none (by simpa using hl)] at e; cases e
  · rw [List.getElem?_set_ne (Ne.symm hk)] at e
    exact h k xs e x hx

/-! slots -/
structure Sl (K : PySem.W.Frag) (G : Hp) (π : List Addr) (σ : L2.St) (ρ : Ev) : Prop where
  len : σ.length = ρ.length
  at_ : ∀ (i : Nat) (x : S), ρ[i]? = some (some x) → ∃ v, σ[i]? = some (some v) ∧ RepS K G π v x
theorem Sl.ext (a : Ext G π H G1 π1 H1) (s : Sl K G π σ ρ) : Sl K G1 π1 σ ρ := ⟨s.len, fun i x e => let ⟨v, h, r⟩ := s.at_ i x e; ⟨v, h, r.ext a⟩⟩
theorem Sl.set (s : Sl K G π σ ρ) (i : Nat) (r : RepS K G π v x) : Sl K G π (σ.set i (some v)) (ρ.set i (some x)) := by
  refine ⟨by simp [s.len], fun j y e => ?_⟩
  by_cases hj : j = i
  · subst hj
    by_cases hl : j < ρ.length
    · rw [List.getElem?_set_self hl] at e
      cases e
      exact ⟨v, by rw [List.getElem?_set_self (by rw [s.len]; exact hl)], r⟩
    · rw [List.getElem?_eq_none (by simpa using hl)] at e; cases e
  · rw [List.getElem?_set_ne (Ne.symm hj)] at e ⊢
    exact s.at_ j y e
def wip (ρ : Ev) : List Nat → Ev
  | [] => ρ
  | i :: is => (wip ρ is).set i none
theorem Sl.unset (s : Sl K G π σ ρ) (i : Nat) : Sl K G π (σ.set i none) (ρ.set i none) := by
  refine ⟨by simp [s.len], fun j y e => ?_⟩
  by_cases hj : j = i
  · subst hj
    by_cases hl : j < ρ.length
    · rw [List.getElem?_set_self hl] at e; cases e
    · rw [List.getElem?_eq_none (by simpa using hl)] at e; cases e
  · rw [List.getElem?_set_ne (Ne.symm hj)] at e ⊢
    exact s.at_ j y e
theorem Sl.wip (s : Sl K G π σ ρ) : ∀ is : List Nat, Sl K G π (wipe σ is) (wip ρ is)
  | [] => s
  | i :: is => (Sl.wip s is).unset i
end
end FL

set_option Elab.async false
set_option linter.all false
set_option maxRecDepth 100000
set_option maxHeartbeats 1000000
namespace FL
open PySem L2

/-! readings over data -/
abbrev RK := S → Sto → Prop
abbrev TD := Ev → Sto → RK → Prop
abbrev TTD := Ev → Sto → (Bool → Sto → Prop) → Prop
abbrev TAD := Ev → Sto → (List S → Sto → Prop) → Prop
structure EndsD where
  nx : Ev → Sto → Prop
  rt : RK
  bk : Ev → Sto → Prop
  ct : Ev → Sto → Prop
abbrev TSD := EndsD → Ev → Sto → Prop
abbrev TGD := S → Ev → Sto → (Ev → Sto → Prop) → Prop
abbrev RD1 := S → Sto → RK → Prop
abbrev RD2 := S → S → Sto → RK → Prop
abbrev RDL := List S → Sto → RK → Prop

section
variable (K : PySem.W.Frag)
def upE (t : TD) : TE := fun σ H Q => ∃ G π ρ cs R, At K G π cs H ∧ Sl K G π σ ρ ∧ t ρ cs R ∧ ∀ v H' x cs' G' π', Ext G π H G' π' H' → At K G' π' cs' H' → RepS K G' π' v x → R x cs' → Q v H'
def upT (t : TTD) : TT := fun σ H Q => ∃ G π ρ cs R, At K G π cs H ∧ Sl K G π σ ρ ∧ t ρ cs R ∧ ∀ b H' cs' G' π', Ext G π H G' π' H' → At K G' π' cs' H' → R b cs' → Q b H'
def upA (t : TAD) : TA := fun σ H Q => ∃ G π ρ cs R, At K G π cs H ∧ Sl K G π σ ρ ∧ t ρ cs R ∧ ∀ vs H' xs cs' G' π', Ext G π H G' π' H' → At K G' π' cs' H' → RepL K G' π' vs xs → R xs cs' → Q vs H'
structure Cn (G : Hp) (π : List Addr) (H : Hp) (d : EndsD) (D : Ends) : Prop where
  nx : ∀ σ' H' ρ' cs' G' π', Ext G π H G' π' H' → At K G' π' cs' H' → Sl K G' π' σ' ρ' → d.nx ρ' cs' → D.nx σ' H'
  bk : ∀ σ' H' ρ' cs' G' π', Ext G π H G' π' H' → At K G' π' cs' H' → Sl K G' π' σ' ρ' → d.bk ρ' cs' → D.bk σ' H'
  ct : ∀ σ' H' ρ' cs' G' π', Ext G π H G' π' H' → At K G' π' cs' H' → Sl K G' π' σ' ρ' → d.ct ρ' cs' → D.ct σ' H'
  rt : ∀ v H' x cs' G' π', Ext G π H G' π' H' → At K G' π' cs' H' → RepS K G' π' v x → d.rt x cs' → D.rt v H'
def upS (t : TSD) : TS := fun D σ H => ∃ G π ρ cs d, At K G π cs H ∧ Sl K G π σ ρ ∧ t d ρ cs ∧ Cn K G π H d D
/-- only the slots is are stored -/
def Chg (is : List Nat) (σ σ' : L2.St) : Prop := σ'.length = σ.length ∧ ∀ i, i ∉ is → σ'[i]? = σ[i]?
def upG (is : List Nat) (t : TGD) : TG := fun v σ H Q => ∃ G π ρ cs x R, At K G π cs H ∧ Sl K G π σ ρ ∧ RepS K G π v x ∧ t x ρ cs R ∧ ∀ σ' H' ρ' cs' G' π', Ext G π H G' π' H' → At K G' π' cs' H' → Sl K G' π' σ' ρ' → Chg is σ σ' → R ρ' cs' → Q σ' H'
def upGs (is : List Nat) (t : List S → Ev → Sto → (Ev → Sto → Prop) → Prop) : TGs := fun vs σ H Q => ∃ G π ρ cs xs R, At K G π cs H ∧ Sl K G π σ ρ ∧ RepL K G π vs xs ∧ t xs ρ cs R ∧ ∀ σ' H' ρ' cs' G' π', Ext G π H G' π' H' → At K G' π' cs' H' → Sl K G' π' σ' ρ' → Chg is σ σ' → R ρ' cs' → Q σ' H'
/-- a heap rule keeps a data rule -/
def Sim1 (r : V → Hp → VK → Prop) (rd : RD1) : Prop := ∀ G π cs H v x R Q, At K G π cs H → RepS K G π v x → rd x cs R → (∀ v' H' z cs' G' π', Ext G π H G' π' H' → At K G' π' cs' H' → RepS K G' π' v' z → R z cs' → Q v' H') → r v H Q
def Sim2 (r : R2) (rd : RD2) : Prop := ∀ G π cs H v w x y R Q, At K G π cs H → RepS K G π v x → RepS K G π w y → rd x y cs R → (∀ v' H' z cs' G' π', Ext G π H G' π' H' → At K G' π' cs' H' → RepS K G' π' v' z → R z cs' → Q v' H') → r v w H Q
def SimL (r : List V → Hp → VK → Prop) (rd : RDL) : Prop := ∀ G π cs H vs xs R Q, At K G π cs H → RepL K G π vs xs → rd xs cs R → (∀ v' H' z cs' G' π', Ext G π H G' π' H' → At K G' π' cs' H' → RepS K G' π' v' z → R z cs' → Q v' H') → r vs H Q
end

section
variable {K : PySem.W.Frag} {G G1 H H1 : Hp} {π π1 : List Addr} {cs : Sto} {d : EndsD} {D : Ends}
theorem Cn.step (c : Cn K G π H d D) (e : Ext G π H G1 π1 H1) : Cn K G1 π1 H1 d D :=
  ⟨fun _ _ _ _ _ _ e' => c.nx _ _ _ _ _ _ (e.trans e'), fun _ _ _ _ _ _ e' => c.bk _ _ _ _ _ _ (e.trans e'), fun _ _ _ _ _ _ e' => c.ct _ _ _ _ _ _ (e.trans e'), fun _ _ _ _ _ _ e' => c.rt _ _ _ _ _ _ (e.trans e')⟩
end

/-! ### names and constants -/
def getS : Ev → Nat → Option S
  | [], _ => none
  | x :: _, 0 => x
  | _ :: xs, n + 1 => getS xs n
theorem getS_eq : ∀ {ρ : Ev} {i : Nat} {x : S}, getS ρ i = some x → ρ[i]? = some (some x)
  | [], _, _, h => by cases h
  | x :: _, 0, _, h => by
    have : x = some _ := h
    subst this; rfl
  | _ :: xs, n + 1, x, h => by
    have := getS_eq (ρ := xs) (i := n) h
    simpa using this
def getC : Sto → Nat → Option (List S)
  | [], _ => none
  | x :: _, 0 => x
  | _ :: xs, n + 1 => getC xs n
theorem getC_eq : ∀ {cs : Sto} {i : Nat} {x : List S}, getC cs i = some x → cs[i]? = some (some x)
  | [], _, _, h => by cases h
  | x :: _, 0, _, h => by
    have : x = some _ := h
    subst this; rfl
  | _ :: xs, n + 1, x, h => by
    have := getC_eq (cs := xs) (i := n) h
    simpa using this
theorem getC_of : ∀ {cs : Sto} {i : Nat} {x : List S}, cs[i]? = some (some x) → getC cs i = some x
  | [], _, _, h => by simp at h
  | x :: _, 0, y, h => by
    have e : x = some y := by simpa using h
    subst e; rfl
  | _ :: xs, n + 1, x, h => getC_of (cs := xs) (i := n) (by simpa using h)
def dVar (i : Nat) : TD := fun ρ cs R => ∃ x, getS ρ i = some x ∧ R x cs
def dC (x : PyData) : TD := fun _ cs R => R (.d x) cs
/-- a name whose list is written no more from here on -/
def dVarF (i : Nat) : TD := fun ρ cs R => ∃ n ds, getS ρ i = some (.ref n) ∧ getC cs n = some (ds.map S.d) ∧ R (.d (.list ds)) (cs.set n none)

section
variable {X : Cx}
theorem _root_.L2.PE.weak {e : Expr} {t t' : TE} (h : PE X e t) (hw : ∀ σ H Q, t' σ H Q → t σ H Q) : PE X e t' := ⟨fun pins s σ H Q I q => h.run pins s σ H Q I (hw _ _ _ q)⟩
theorem _root_.L2.PT.weak {e : Expr} {t t' : TT} (h : PT X e t) (hw : ∀ σ H Q, t' σ H Q → t σ H Q) : PT X e t' := ⟨fun pins s σ H Q I q => h.run pins s σ H Q I (hw _ _ _ q)⟩
theorem _root_.L2.PW.weak {e : Expr} {t t' : TT} (h : PW X e t) (hw : ∀ σ H Q, t' σ H Q → t σ H Q) : PW X e t' := ⟨fun wh pins s σ H Q I q => h.run wh pins s σ H Q I (hw _ _ _ q)⟩
theorem _root_.L2.PA.weak {es : List Expr} {t t' : TA} (h : PA X es t) (hw : ∀ σ H Q, t' σ H Q → t σ H Q) : PA X es t' := ⟨fun p pins s σ H Q I q => h.run p pins s σ H Q I (hw _ _ _ q)⟩
theorem _root_.L2.PS.weak {st : Stmt} {t t' : TS} (h : PS X st t) (hw : ∀ D σ H, t' D σ H → t D σ H) : PS X st t' := ⟨fun pins s σ H D I q => h.run pins s σ H D I (hw _ _ _ q)⟩
theorem _root_.L2.PSs.weak {st : List Stmt} {t t' : TS} (h : PSs X st t) (hw : ∀ D σ H, t' D σ H → t D σ H) : PSs X st t' := ⟨fun pins s σ H D I q => h.run pins s σ H D I (hw _ _ _ q)⟩
theorem _root_.L2.PG.weak {e : Expr} {t t' : TG} (h : PG X e t) (hw : ∀ v σ H Q, t' v σ H Q → t v σ H Q) : PG X e t' := ⟨fun pins s σ H v u Q I r q => h.run pins s σ H v u Q I r (hw _ _ _ _ q)⟩

variable {K : PySem.W.Frag}
theorem up_var {i : Nat} : ∀ σ H Q, upE K (dVar i) σ H Q → tVar i σ H Q := by
  rintro σ H Q ⟨G, π, ρ, cs, R, A, s, ⟨x, e, q⟩, k⟩
  obtain ⟨v, e1, r⟩ := s.at_ i x (getS_eq e)
  exact ⟨v, e1, k v H x cs G π .refl A r q⟩
theorem up_varF {i : Nat} : ∀ σ H Q, upE K (dVarF i) σ H Q → tVar i σ H Q := by
  rintro σ H Q ⟨G, π, ρ, cs, R, A, s, ⟨n, ds, e, e2, q⟩, k⟩
  obtain ⟨v, e1, r⟩ := s.at_ i _ (getS_eq e)
  cases r with
  | ref ha =>
    obtain ⟨G', A', E', dd⟩ := A.frz ha (getC_eq e2)
    exact ⟨_, e1, k _ H _ _ G' π E' A' (.d dd) q⟩
theorem up_c {v : V} {x : PyData} (h : ∀ G, Dp K G v x) : ∀ σ H Q, upE K (dC x) σ H Q → tC v σ H Q := by
  rintro σ H Q ⟨G, π, ρ, cs, R, A, s, q, k⟩
  exact k v H _ cs G π .refl A (.d (h G)) q
theorem ee_var (i : Nat) {x : Str} {pos : Pos} (hN : X.N[i]? = some x := by rfl) (hv : Vis X.env.scope x := by first | exact Or.inl rfl | exact Or.inr (Or.inl rfl) | exact Or.inr (Or.inr rfl)) (hd : (x == ("__debug__" : Str)) = false := by decide)
    (hcd : (x == ("__classdict__" : Str)) = false := by decide) : PE X (.Name x pos) (upE X.K (dVar i)) := (pe_var hN hv hd hcd).weak up_var
theorem ee_varF (i : Nat) {x : Str} {pos : Pos} (hN : X.N[i]? = some x := by rfl) (hv : Vis X.env.scope x := by first | exact Or.inl rfl | exact Or.inr (Or.inl rfl) | exact Or.inr (Or.inr rfl)) (hd : (x == ("__debug__" : Str)) = false := by decide)
    (hcd : (x == ("__classdict__" : Str)) = false := by decide) : PE X (.Name x pos) (upE X.K (dVarF i)) := (pe_var hN hv hd hcd).weak up_varF
theorem ee_int {i j pos} : PE X (.Constant (.int i) j pos) (upE X.K (dC (.int i))) := pe_int.weak (up_c fun _ => .int i)
theorem ee_bl {b j pos} : PE X (.Constant (.bool b) j pos) (upE X.K (dC (.bool b))) := pe_bl.weak (up_c fun _ => .bl b)
theorem ee_non {j pos} : PE X (.Constant .none j pos) (upE X.K (dC .none)) := pe_non.weak (up_c fun _ => .non)
theorem ee_str {x j pos} : PE X (.Constant (.str x) j pos) (upE X.K (dC (.str x))) := pe_str.weak (up_c fun _ => .str x)
/-- a constant of the module -/
structure GlobD (K : PySem.W.Frag) (mg : Str → Option Value) (x : Str) (d : PyData) : Prop where
  ex : ∃ u v, mg x = some u ∧ RelV v u ∧ ∀ G, Dp K G v d
theorem ee_glob {x : Str} {d : PyData} {pos : Pos} (hg : Gl X x) (h : GlobD X.K X.mg x d) (hd : (x == ("__debug__" : Str)) = false := by decide) : PE X (.Name x pos) (upE X.K (dC d)) :=
  let ⟨_, _, hm, r, q⟩ := h.ex
  (pe_glob hg hm r hd).weak (up_c q)

/-! ### operators -/
def dOp (rd : RD2) (ta tb : TD) : TD := fun ρ cs R => ta ρ cs fun x cs1 => tb ρ cs1 fun y cs2 => rd x y cs2 R
def dUn (rd : RD1) (ta : TD) : TD := fun ρ cs R => ta ρ cs fun x cs1 => rd x cs1 R
theorem up_op {r : R2} {rd : RD2} {ta tb : TD} (h : Sim2 K r rd) : ∀ σ H Q, upE K (dOp rd ta tb) σ H Q → tOp r (upE K ta) (upE K tb) σ H Q := by
  rintro σ H Q ⟨G, π, ρ, cs, R, A, s, q, k⟩
  refine ⟨G, π, ρ, cs, _, A, s, q, fun v1 H1 x cs1 G1 π1 E1 A1 r1 q1 => ⟨G1, π1, ρ, cs1, _, A1, s.ext E1, q1, fun v2 H2 y cs2 G2 π2 E2 A2 r2 q2 => ?_⟩⟩
  exact h G2 π2 cs2 H2 v1 v2 x y R Q A2 (r1.ext E2) r2 q2 fun v3 H3 z cs3 G3 π3 E3 A3 r3 q3 => k _ _ _ _ _ _ (E1.trans (E2.trans E3)) A3 r3 q3
theorem up_un {r : V → Hp → VK → Prop} {rd : RD1} {ta : TD} (h : Sim1 K r rd) : ∀ σ H Q, upE K (dUn rd ta) σ H Q → tUn r (upE K ta) σ H Q := by
  rintro σ H Q ⟨G, π, ρ, cs, R, A, s, q, k⟩
  refine ⟨G, π, ρ, cs, _, A, s, q, fun v1 H1 x cs1 G1 π1 E1 A1 r1 q1 => ?_⟩
  exact h G1 π1 cs1 H1 v1 x R Q A1 r1 q1 fun v3 H3 z cs3 G3 π3 E3 A3 r3 q3 => k _ _ _ _ _ _ (E1.trans E3) A3 r3 q3
variable {a b c : Expr} {ta tb tc : TD} {pos : Pos}
theorem ee_op {op : Operator} {r : R2} {rd : RD2} (h : Sim2 X.K r rd) (ho : OpR X (binaryOp op) r) (ha : PE X a (upE X.K ta)) (hb : PE X b (upE X.K tb)) : PE X (.BinOp a op b pos) (upE X.K (dOp rd ta tb)) := (pe_op ho ha hb).weak (up_op h)
theorem ee_un {op : UnaryOp} {r : V → Hp → VK → Prop} {rd : RD1} (h : Sim1 X.K r rd) (ho : UnR X (unaryOp op) r) (ha : PE X a (upE X.K ta)) : PE X (.UnaryOp op a pos) (upE X.K (dUn rd ta)) := (pe_un ho ha).weak (up_un h)
theorem ee_cmp {op : CmpOp} {r : R2} {rd : RD2} (h : Sim2 X.K r rd) (ho : OpR X (compareOp op) r) (ha : PE X a (upE X.K ta)) (hb : PE X b (upE X.K tb)) (hm : behindInMarks op b = false) : PE X (.Compare a [op] [b] pos) (upE X.K (dOp rd ta tb)) :=
  (pe_cmpR ho ha hb hm).weak (up_op h)
def dTestR (t : TD) : TTD := fun ρ cs R => t ρ cs fun x cs1 => ∃ b, x = sb b ∧ R b cs1
theorem up_test {t : TD} {tt : TE} (h : ∀ σ H Q, upE K t σ H Q → tt σ H Q) : ∀ σ H Q, upT K (dTestR t) σ H Q → tTest tt σ H Q := by
  rintro σ H Q ⟨G, π, ρ, cs, R, A, s, q, k⟩
  refine h σ H _ ⟨G, π, ρ, cs, _, A, s, q, fun v1 H1 x cs1 G1 π1 E1 A1 r1 q1 => ?_⟩
  obtain ⟨b, rfl, q1⟩ := q1
  cases r1 with
  | d r1 => cases r1 with
    | bl => exact ⟨b, rfl, k _ _ _ _ _ E1 A1 q1⟩
theorem et_cmp {op : CmpOp} {r : R2} {rd : RD2} (h : Sim2 X.K r rd) (ho : OpR X (compareOp op) r) (ha : PE X a (upE X.K ta)) (hb : PE X b (upE X.K tb)) (hm : behindInMarks op b = false) : PT X (.Compare a [op] [b] pos) (upT X.K (dTestR (dOp rd ta tb))) :=
  (pt_cmpR ho ha hb hm).weak (up_test (up_op h))
/-- a < b < c -/
def dChain (rd rd' : RD2) (ta tb tc : TD) : TD := fun ρ cs R => ta ρ cs fun x cs1 => tb ρ cs1 fun y cs2 => rd x y cs2 fun z cs3 => ∃ b, z = sb b ∧ (b = true → tc ρ cs3 fun u cs4 => rd' y u cs4 R) ∧ (b = false → R (sb false) cs3)

/-! whole numbers -/
def qI (C : Int → Int → Prop) (g : Int → Int → PyData) : RD2 := fun x y cs R => ∃ i j, x = si i ∧ y = si j ∧ C i j ∧ R (.d (g i j)) cs
def qI0 (g : Int → Int → PyData) : RD2 := fun x y cs R => ∃ i j, x = si i ∧ y = si j ∧ R (.d (g i j)) cs
theorem sim_I {C : Int → Int → Prop} {g : Int → Int → Int} : Sim2 K (rI C fun i j => .int (g i j)) (qI C fun i j => .int (g i j)) := by
  rintro G π cs H v w x y R Q A rv rw ⟨i, j, rfl, rfl, hc, q⟩ k
  cases rv with
  | d rv => cases rv; cases rw with
    | d rw => cases rw; exact ⟨i, j, rfl, rfl, hc, k _ _ _ _ _ _ .refl A (.d (.int _)) q⟩
theorem sim_I0 {g : Int → Int → Int} : Sim2 K (rI0 fun i j => .int (g i j)) (qI0 fun i j => .int (g i j)) := by
  rintro G π cs H v w x y R Q A rv rw ⟨i, j, rfl, rfl, q⟩ k
  cases rv with
  | d rv => cases rv; cases rw with
    | d rw => cases rw; exact ⟨i, j, rfl, rfl, k _ _ _ _ _ _ .refl A (.d (.int _)) q⟩
theorem sim_B0 {g : Int → Int → Bool} : Sim2 K (rI0 fun i j => .bl (g i j)) (qI0 fun i j => .bool (g i j)) := by
  rintro G π cs H v w x y R Q A rv rw ⟨i, j, rfl, rfl, q⟩ k
  cases rv with
  | d rv => cases rv; cases rw with
    | d rw => cases rw; exact ⟨i, j, rfl, rfl, k _ _ _ _ _ _ .refl A (.d (.bl _)) q⟩
theorem sim_U {g : Int → Int} : Sim1 K (rU fun i => .int (g i)) (fun x cs R => ∃ i, x = si i ∧ R (si (g i)) cs) := by
  rintro G π cs H v x R Q A rv ⟨i, rfl, q⟩ k
  cases rv with
  | d rv => cases rv; exact ⟨i, rfl, k _ _ _ _ _ _ .refl A (.d (.int _)) q⟩
abbrev qAdd : RD2 := qI0 fun i j => .int (i + j)
abbrev qSub : RD2 := qI0 fun i j => .int (i - j)
abbrev qMul : RD2 := qI CMulW fun i j => .int (i * j)
abbrev qDiv : RD2 := qI CDivW fun i j => .int (i / j)
abbrev qMod : RD2 := qI (fun _ j => 0 < j) fun i j => .int (i % j)
abbrev qModN : RD2 := qI (fun _ j => j ≠ 0) fun i j => .int (i.fmod j)
abbrev qPow : RD2 := qI CPow fun i j => .int (i ^ j.toNat)
abbrev qLt : RD2 := qI0 fun i j => .bool (decide (i < j))
abbrev qLe : RD2 := qI0 fun i j => .bool (decide (i ≤ j))
abbrev qGt : RD2 := qI0 fun i j => .bool (decide (j < i))
abbrev qGe : RD2 := qI0 fun i j => .bool (decide (j ≤ i))
abbrev qNeg : RD1 := fun x cs R => ∃ i, x = si i ∧ R (si (-i)) cs
theorem ee_add (ha : PE X a (upE X.K ta)) (hb : PE X b (upE X.K tb)) : PE X (.BinOp a .Add b pos) (upE X.K (dOp qAdd ta tb)) := ee_op sim_I0 op_add ha hb
theorem ee_sub (ha : PE X a (upE X.K ta)) (hb : PE X b (upE X.K tb)) : PE X (.BinOp a .Sub b pos) (upE X.K (dOp qSub ta tb)) := ee_op sim_I0 op_sub ha hb
theorem ee_mul (ha : PE X a (upE X.K ta)) (hb : PE X b (upE X.K tb)) : PE X (.BinOp a .Mult b pos) (upE X.K (dOp qMul ta tb)) := ee_op sim_I op_mulW ha hb
theorem ee_div (ha : PE X a (upE X.K ta)) (hb : PE X b (upE X.K tb)) : PE X (.BinOp a .FloorDiv b pos) (upE X.K (dOp qDiv ta tb)) := ee_op sim_I op_fdivW ha hb
theorem ee_mod (ha : PE X a (upE X.K ta)) (hb : PE X b (upE X.K tb)) : PE X (.BinOp a .Mod b pos) (upE X.K (dOp qMod ta tb)) := ee_op sim_I op_mod ha hb
theorem ee_modN (ha : PE X a (upE X.K ta)) (hb : PE X b (upE X.K tb)) : PE X (.BinOp a .Mod b pos) (upE X.K (dOp qModN ta tb)) := ee_op sim_I op_modN ha hb
theorem ee_pow (ha : PE X a (upE X.K ta)) (hb : PE X b (upE X.K tb)) : PE X (.BinOp a .Pow b pos) (upE X.K (dOp qPow ta tb)) := ee_op sim_I op_pow ha hb
theorem ee_neg (ha : PE X a (upE X.K ta)) : PE X (.UnaryOp .USub a pos) (upE X.K (dUn qNeg ta)) := ee_un sim_U un_neg ha
theorem ee_lt (ha : PE X a (upE X.K ta)) (hb : PE X b (upE X.K tb)) : PE X (.Compare a [.Lt] [b] pos) (upE X.K (dOp qLt ta tb)) := ee_cmp sim_B0 op_lt ha hb (nomark _)
theorem ee_le (ha : PE X a (upE X.K ta)) (hb : PE X b (upE X.K tb)) : PE X (.Compare a [.LtE] [b] pos) (upE X.K (dOp qLe ta tb)) := ee_cmp sim_B0 op_le ha hb (nomark _)
theorem ee_gt (ha : PE X a (upE X.K ta)) (hb : PE X b (upE X.K tb)) : PE X (.Compare a [.Gt] [b] pos) (upE X.K (dOp qGt ta tb)) := ee_cmp sim_B0 op_gt ha hb (nomark _)
theorem ee_ge (ha : PE X a (upE X.K ta)) (hb : PE X b (upE X.K tb)) : PE X (.Compare a [.GtE] [b] pos) (upE X.K (dOp qGe ta tb)) := ee_cmp sim_B0 op_ge ha hb (nomark _)
theorem et_lt (ha : PE X a (upE X.K ta)) (hb : PE X b (upE X.K tb)) : PT X (.Compare a [.Lt] [b] pos) (upT X.K (dTestR (dOp qLt ta tb))) := et_cmp sim_B0 op_lt ha hb (nomark _)
theorem et_le (ha : PE X a (upE X.K ta)) (hb : PE X b (upE X.K tb)) : PT X (.Compare a [.LtE] [b] pos) (upT X.K (dTestR (dOp qLe ta tb))) := et_cmp sim_B0 op_le ha hb (nomark _)
theorem et_gt (ha : PE X a (upE X.K ta)) (hb : PE X b (upE X.K tb)) : PT X (.Compare a [.Gt] [b] pos) (upT X.K (dTestR (dOp qGt ta tb))) := et_cmp sim_B0 op_gt ha hb (nomark _)
theorem et_ge (ha : PE X a (upE X.K ta)) (hb : PE X b (upE X.K tb)) : PT X (.Compare a [.GtE] [b] pos) (upT X.K (dTestR (dOp qGe ta tb))) := et_cmp sim_B0 op_ge ha hb (nomark _)

/-! == and != of data; is None -/
def eqOk : PyData → PyData → Prop
  | .int _, .int _ => True
  | .bool _, .bool _ => True
  | .str _, .str _ => True
  | x, y => SeqAt.shaped x = true ∧ SeqAt.shaped y = true
def qEq : RD2 := fun x y cs R => ∃ d e, x = .d d ∧ y = .d e ∧ eqOk d e ∧ R (sb (PyData.eqv d e)) cs
def qNe : RD2 := fun x y cs R => ∃ d e, x = .d d ∧ y = .d e ∧ eqOk d e ∧ R (sb (!PyData.eqv d e)) cs
theorem str_beq_dec (a b : Str) : decide (V.str a = V.str b) = (a == b) := L2.dec_str
theorem sim_Eq : Sim2 K (fun x y H Q => rEq x y H Q ∨ rEqD K x y H Q) qEq := by
  rintro G π cs H v w x y R Q A rv rw ⟨d, e, rfl, rfl, hc, q⟩ k
  cases rv with
  | d rv => cases rw with
    | d rw =>
      have fin : ∀ b, b = PyData.eqv d e → Q (.bl b) H := fun b hb => k _ _ _ _ _ _ .refl A (.d (.bl b)) (hb ▸ q)
      have gen : SeqAt.shaped d = true ∧ SeqAt.shaped e = true → rEq v w H Q ∨ rEqD K v w H Q := fun h => .inr ⟨d, e, dp_mono A.kn rv, dp_mono A.kn rw, h.1, h.2, fin _ rfl⟩
      cases d <;> cases e <;> first
        | exact gen hc
        | (cases rv; cases rw; refine .inl ⟨rfl, fin _ ?_⟩; first | (rw [dec_int]; rfl) | (rw [dec_bl]; rfl) | (rw [L2.dec_str]; rfl))
theorem sim_Ne : Sim2 K (fun x y H Q => rNe x y H Q ∨ rNeD K x y H Q) qNe := by
  rintro G π cs H v w x y R Q A rv rw ⟨d, e, rfl, rfl, hc, q⟩ k
  cases rv with
  | d rv => cases rw with
    | d rw =>
      have fin : ∀ b, b = (!PyData.eqv d e) → Q (.bl b) H := fun b hb => k _ _ _ _ _ _ .refl A (.d (.bl b)) (hb ▸ q)
      have gen : SeqAt.shaped d = true ∧ SeqAt.shaped e = true → rNe v w H Q ∨ rNeD K v w H Q := fun h => .inr ⟨d, e, dp_mono A.kn rv, dp_mono A.kn rw, h.1, h.2, fin _ rfl⟩
      cases d <;> cases e <;> first
        | exact gen hc
        | (cases rv; cases rw; refine .inl ⟨rfl, fin _ ?_⟩; first | (rw [dec_int]; rfl) | (rw [dec_bl]; rfl) | (rw [L2.dec_str]; rfl))
theorem ee_eq (hu : X.A.units + 64 < cLine) (ha : PE X a (upE X.K ta)) (hb : PE X b (upE X.K tb)) : PE X (.Compare a [.Eq] [b] pos) (upE X.K (dOp qEq ta tb)) := ee_cmp sim_Eq (op_eq.or (op_eqD hu)) ha hb (nomark _)
theorem ee_ne (hu : X.A.units + 64 < cLine) (ha : PE X a (upE X.K ta)) (hb : PE X b (upE X.K tb)) : PE X (.Compare a [.NotEq] [b] pos) (upE X.K (dOp qNe ta tb)) := ee_cmp sim_Ne (op_ne.or (op_neD hu)) ha hb (nomark _)
theorem et_eq (hu : X.A.units + 64 < cLine) (ha : PE X a (upE X.K ta)) (hb : PE X b (upE X.K tb)) : PT X (.Compare a [.Eq] [b] pos) (upT X.K (dTestR (dOp qEq ta tb))) := et_cmp sim_Eq (op_eq.or (op_eqD hu)) ha hb (nomark _)
theorem et_ne (hu : X.A.units + 64 < cLine) (ha : PE X a (upE X.K ta)) (hb : PE X b (upE X.K tb)) : PT X (.Compare a [.NotEq] [b] pos) (upT X.K (dTestR (dOp qNe ta tb))) := et_cmp sim_Ne (op_ne.or (op_neD hu)) ha hb (nomark _)
def isNone : S → Bool
  | .d .none => true
  | _ => false
def qIsN : RD2 := fun x y cs R => y = .d .none ∧ R (sb (isNone x)) cs
def qNotN : RD2 := fun x y cs R => y = .d .none ∧ R (sb (!isNone x)) cs
theorem isNone_of {G : Hp} {π : List Addr} {v : V} {x : S} (r : RepS K G π v x) : decide (v = .non) = isNone x := by
  cases r with
  | d r => cases r <;> first | rfl | (refine decide_eq_false (fun z => ?_); cases z)
  | ref _ => exact decide_eq_false fun z => by cases z
theorem sim_IsN : Sim2 K (fun x y H Q => y = .non ∧ Q (.bl (decide (x = .non))) H) qIsN := by
  rintro G π cs H v w x y R Q A rv rw ⟨rfl, q⟩ k
  cases rw with
  | d rw => cases rw; exact ⟨rfl, k _ _ _ _ _ _ .refl A (.d (.bl _)) (by rw [isNone_of rv]; exact q)⟩
theorem sim_NotN : Sim2 K (fun x y H Q => y = .non ∧ Q (.bl (!decide (x = .non))) H) qNotN := by
  rintro G π cs H v w x y R Q A rv rw ⟨rfl, q⟩ k
  cases rw with
  | d rw => cases rw; exact ⟨rfl, k _ _ _ _ _ _ .refl A (.d (.bl _)) (by rw [isNone_of rv]; exact q)⟩
theorem ee_isN (ha : PE X a (upE X.K ta)) (hb : PE X b (upE X.K tb)) : PE X (.Compare a [.Is] [b] pos) (upE X.K (dOp qIsN ta tb)) := ee_cmp sim_IsN op_isN ha hb (nomark _)
theorem ee_notN (ha : PE X a (upE X.K ta)) (hb : PE X b (upE X.K tb)) : PE X (.Compare a [.IsNot] [b] pos) (upE X.K (dOp qNotN ta tb)) := ee_cmp sim_NotN op_notN ha hb (nomark _)
theorem et_isN (ha : PE X a (upE X.K ta)) (hb : PE X b (upE X.K tb)) : PT X (.Compare a [.Is] [b] pos) (upT X.K (dTestR (dOp qIsN ta tb))) := et_cmp sim_IsN op_isN ha hb (nomark _)
theorem et_notN (ha : PE X a (upE X.K ta)) (hb : PE X b (upE X.K tb)) : PT X (.Compare a [.IsNot] [b] pos) (upT X.K (dTestR (dOp qNotN ta tb))) := et_cmp sim_NotN op_notN ha hb (nomark _)
theorem up_chain {r r' : R2} {rd rd' : RD2} (h : Sim2 K r rd) (h' : Sim2 K r' rd') : ∀ σ H Q, upE K (dChain rd rd' ta tb tc) σ H Q → tChain r r' (upE K ta) (upE K tb) (upE K tc) σ H Q := by
  rintro σ H Q ⟨G, π, ρ, cs, R, A, s, q, k⟩
  refine ⟨G, π, ρ, cs, _, A, s, q, fun v1 H1 x cs1 G1 π1 E1 A1 r1 q1 => ⟨G1, π1, ρ, cs1, _, A1, s.ext E1, q1, fun v2 H2 y cs2 G2 π2 E2 A2 r2 q2 => ?_⟩⟩
  refine h G2 π2 cs2 H2 v1 v2 x y _ _ A2 (r1.ext E2) r2 q2 fun v3 H3 z cs3 G3 π3 E3 A3 r3 q3 => ?_
  obtain ⟨b, rfl, qt, qf⟩ := q3
  cases r3 with
  | d r3 =>
    cases r3
    refine ⟨b, rfl, ?_⟩
    cases b with
    | false => exact k _ _ _ _ _ _ (E1.trans (E2.trans E3)) A3 (.d (.bl false)) (qf rfl)
    | true =>
      refine ⟨G3, π3, ρ, cs3, _, A3, (s.ext E1).ext (E2.trans E3), qt rfl, fun v4 H4 u cs4 G4 π4 E4 A4 r4 q4 => ?_⟩
      exact h' G4 π4 cs4 H4 v2 v4 y u R Q A4 (r2.ext (E3.trans E4)) r4 q4 fun v5 H5 w cs5 G5 π5 E5 A5 r5 q5 => k _ _ _ _ _ _ (E1.trans (E2.trans (E3.trans (E4.trans E5)))) A5 r5 q5

/-! ### tests, and, or, not -/
def dTruR : S → Sto → (Bool → Sto → Prop) → Prop
  | .d .none, cs, R => R false cs
  | .d (.bool b), cs, R => R b cs
  | .d (.int i), cs, R => R (i != 0) cs
  | .d (.list ds), cs, R => R (!ds.isEmpty) cs
  | .d (.tuple ds), cs, R => R (!ds.isEmpty) cs
  | .d (.str z), cs, R => z.length ≤ sizeLine ∧ R ((z.length : Int) != 0) cs
  | .ref n, cs, R => ∃ xs, getC cs n = some xs ∧ R (!xs.isEmpty) cs
  | _, _, _ => False
def dTru (t : TD) : TTD := fun ρ cs R => t ρ cs fun x cs1 => dTruR x cs1 R
theorem isEmpty_repL {G : Hp} {π : List Addr} {vs : List V} {xs : List S} (r : RepL K G π vs xs) : vs.isEmpty = xs.isEmpty := by cases r <;> rfl
theorem isEmpty_dp {G : Hp} {vs : List V} {xs : List PyData} (r : DpAll K G vs xs) : vs.isEmpty = xs.isEmpty := by cases r <;> rfl
theorem tru_of {G H : Hp} {π : List Addr} {cs : Sto} {v : V} {x : S} {R : Bool → Sto → Prop} (A : At K G π cs H) (r : RepS K G π v x) (q : dTruR x cs R) : ∃ k, TruV K v H k ∧ R k cs := by
  cases r with
  | d r =>
    cases r with
    | non => exact ⟨false, rfl, q⟩
    | bl b => exact ⟨b, rfl, q⟩
    | int i => exact ⟨_, rfl, q⟩
    | str z => exact ⟨_, ⟨q.1, rfl⟩, q.2⟩
    | lst h ds => exact ⟨_, .inl ⟨_, A.kn.seq h, rfl⟩, by rw [isEmpty_dp ds]; exact q⟩
    | tup h ds => exact ⟨_, .inr (.inl ⟨_, seqT_mono A.kn h, rfl⟩), by rw [isEmpty_dp ds]; exact q⟩
  | ref h =>
    obtain ⟨xs, e, q⟩ := q
    obtain ⟨_, vs, e2, rl⟩ := A.st _ _ _ h (getC_eq e)
    exact ⟨_, .inl ⟨_, .of e2, rfl⟩, by rw [isEmpty_repL rl]; exact q⟩
theorem et_tru (ha : PE X a (upE X.K ta)) (he : ∀ whole, isTrue a X.env whole = (do let v ← whole; standAt a.pos; holding [v] (truthy v)) := by intro _; rfl) : PT X a (upT X.K (dTru ta)) := by
  refine (pt_truth ha he).weak ?_
  rintro σ H Q ⟨G, π, ρ, cs, R, A, s, q, k⟩
  refine ⟨G, π, ρ, cs, _, A, s, q, fun v1 H1 x cs1 G1 π1 E1 A1 r1 q1 => ?_⟩
  obtain ⟨b, h, q2⟩ := tru_of A1 r1 q1
  exact ⟨b, h, k _ _ _ _ _ E1 A1 q2⟩
variable {tt uu : TTD} {rest : List Expr}
def dAnd (t u : TTD) : TTD := fun ρ cs R => t ρ cs fun b cs1 => (b = true → u ρ cs1 R) ∧ (b = false → R false cs1)
def dOr (t u : TTD) : TTD := fun ρ cs R => t ρ cs fun b cs1 => (b = true → R true cs1) ∧ (b = false → u ρ cs1 R)
def dNot (t : TTD) : TTD := fun ρ cs R => t ρ cs fun b cs1 => R (!b) cs1
theorem ew_and1 (ha : PT X a (upT X.K tt)) : PW X (.BoolOp .And [a] pos) (upT X.K tt) := pw_and1 ha
theorem ew_or1 (ha : PT X a (upT X.K tt)) : PW X (.BoolOp .Or [a] pos) (upT X.K tt) := pw_or1 ha
theorem ew_and (ha : PT X a (upT X.K tt)) (hb : PW X (.BoolOp .And (b :: rest) pos) (upT X.K uu)) : PW X (.BoolOp .And (a :: b :: rest) pos) (upT X.K (dAnd tt uu)) := by
  refine (pw_and ha hb).weak ?_
  rintro σ H Q ⟨G, π, ρ, cs, R, A, s, q, k⟩
  refine ⟨G, π, ρ, cs, _, A, s, q, fun c H1 cs1 G1 π1 E1 A1 q1 => ?_⟩
  cases c with
  | true =>
    rw [if_pos rfl]
    exact ⟨G1, π1, ρ, cs1, R, A1, s.ext E1, q1.1 rfl, fun b H2 cs2 G2 π2 E2 A2 q2 => k _ _ _ _ _ (E1.trans E2) A2 q2⟩
  | false => exact k _ _ _ _ _ E1 A1 (q1.2 rfl)
theorem ew_or (ha : PT X a (upT X.K tt)) (hb : PW X (.BoolOp .Or (b :: rest) pos) (upT X.K uu)) : PW X (.BoolOp .Or (a :: b :: rest) pos) (upT X.K (dOr tt uu)) := by
  refine (pw_or ha hb).weak ?_
  rintro σ H Q ⟨G, π, ρ, cs, R, A, s, q, k⟩
  refine ⟨G, π, ρ, cs, _, A, s, q, fun c H1 cs1 G1 π1 E1 A1 q1 => ?_⟩
  cases c with
  | false =>
    rw [if_neg Bool.false_ne_true]
    exact ⟨G1, π1, ρ, cs1, R, A1, s.ext E1, q1.2 rfl, fun b H2 cs2 G2 π2 E2 A2 q2 => k _ _ _ _ _ (E1.trans E2) A2 q2⟩
  | true => exact k _ _ _ _ _ E1 A1 (q1.1 rfl)
theorem et_not (ha : PT X a (upT X.K tt)) : PT X (.UnaryOp .Not a pos) (upT X.K (dNot tt)) := by
  refine (pt_not ha).weak ?_
  rintro σ H Q ⟨G, π, ρ, cs, R, A, s, q, k⟩
  exact ⟨G, π, ρ, cs, _, A, s, q, fun c H1 cs1 G1 π1 E1 A1 q1 => k _ _ _ _ _ E1 A1 q1⟩
/-- .. as values, of bools -/
def dAndV (ta tb : TD) : TD := fun ρ cs R => ta ρ cs fun x cs1 => ∃ b, x = sb b ∧ (b = true → tb ρ cs1 R) ∧ (b = false → R (sb false) cs1)
def dOrV (ta tb : TD) : TD := fun ρ cs R => ta ρ cs fun x cs1 => ∃ b, x = sb b ∧ (b = true → R (sb true) cs1) ∧ (b = false → tb ρ cs1 R)
def dNotV (ta : TD) : TD := fun ρ cs R => ta ρ cs fun x cs1 => ∃ b, x = sb b ∧ R (sb (!b)) cs1
theorem ee_one {op} {t : TD} (h : PE X a (upE X.K t)) : PE X (.BoolOp op [a] pos) (upE X.K t) := pe_one h
theorem ee_and (ha : PE X a (upE X.K ta)) (hb : PE X (.BoolOp .And (b :: rest) pos) (upE X.K tb)) : PE X (.BoolOp .And (a :: b :: rest) pos) (upE X.K (dAndV ta tb)) := by
  refine (pe_and ha hb).weak ?_
  rintro σ H Q ⟨G, π, ρ, cs, R, A, s, q, k⟩
  refine ⟨G, π, ρ, cs, _, A, s, q, fun v1 H1 x cs1 G1 π1 E1 A1 r1 q1 => ?_⟩
  obtain ⟨c, rfl, qt, qf⟩ := q1
  cases r1 with
  | d r1 =>
    cases r1
    refine ⟨c, rfl, ?_⟩
    cases c with
    | true =>
      rw [if_pos rfl]
      exact ⟨G1, π1, ρ, cs1, R, A1, s.ext E1, qt rfl, fun _ _ _ _ _ _ E2 A2 r2 q2 => k _ _ _ _ _ _ (E1.trans E2) A2 r2 q2⟩
    | false => exact k _ _ _ _ _ _ E1 A1 (.d (.bl false)) (qf rfl)
theorem ee_or (ha : PE X a (upE X.K ta)) (hb : PE X (.BoolOp .Or (b :: rest) pos) (upE X.K tb)) : PE X (.BoolOp .Or (a :: b :: rest) pos) (upE X.K (dOrV ta tb)) := by
  refine (pe_or ha hb).weak ?_
  rintro σ H Q ⟨G, π, ρ, cs, R, A, s, q, k⟩
  refine ⟨G, π, ρ, cs, _, A, s, q, fun v1 H1 x cs1 G1 π1 E1 A1 r1 q1 => ?_⟩
  obtain ⟨c, rfl, qt, qf⟩ := q1
  cases r1 with
  | d r1 =>
    cases r1
    refine ⟨c, rfl, ?_⟩
    cases c with
    | false =>
      rw [if_neg Bool.false_ne_true]
      exact ⟨G1, π1, ρ, cs1, R, A1, s.ext E1, qf rfl, fun _ _ _ _ _ _ E2 A2 r2 q2 => k _ _ _ _ _ _ (E1.trans E2) A2 r2 q2⟩
    | true => exact k _ _ _ _ _ _ E1 A1 (.d (.bl true)) (qt rfl)
theorem ee_not (ha : PE X a (upE X.K ta)) : PE X (.UnaryOp .Not a pos) (upE X.K (dNotV ta)) := by
  refine (pe_not ha).weak ?_
  rintro σ H Q ⟨G, π, ρ, cs, R, A, s, q, k⟩
  refine ⟨G, π, ρ, cs, _, A, s, q, fun v1 H1 x cs1 G1 π1 E1 A1 r1 q1 => ?_⟩
  obtain ⟨c, rfl, q1⟩ := q1
  cases r1 with
  | d r1 =>
    cases r1
    exact ⟨c, rfl, k _ _ _ _ _ _ E1 A1 (.d (.bl _)) q1⟩
def dIf (t : TTD) (ta tb : TD) : TD := fun ρ cs R => t ρ cs fun b cs1 => (b = true → ta ρ cs1 R) ∧ (b = false → tb ρ cs1 R)
theorem ee_if (hc : PT X c (upT X.K tt)) (ha : PE X a (upE X.K ta)) (hb : PE X b (upE X.K tb)) : PE X (.IfExp c a b pos) (upE X.K (dIf tt ta tb)) := by
  refine (pe_ifExp hc ha hb).weak ?_
  rintro σ H Q ⟨G, π, ρ, cs, R, A, s, q, k⟩
  refine ⟨G, π, ρ, cs, _, A, s, q, fun c H1 cs1 G1 π1 E1 A1 q1 => ?_⟩
  cases c with
  | true =>
    rw [if_pos rfl]
    exact ⟨G1, π1, ρ, cs1, R, A1, s.ext E1, q1.1 rfl, fun _ _ _ _ _ _ E2 A2 r2 q2 => k _ _ _ _ _ _ (E1.trans E2) A2 r2 q2⟩
  | false =>
    rw [if_neg Bool.false_ne_true]
    exact ⟨G1, π1, ρ, cs1, R, A1, s.ext E1, q1.2 rfl, fun _ _ _ _ _ _ E2 A2 r2 q2 => k _ _ _ _ _ _ (E1.trans E2) A2 r2 q2⟩
end
end FL

set_option Elab.async false
set_option linter.all false
set_option maxRecDepth 100000
set_option maxHeartbeats 1000000
namespace FL
open PySem L2

section
variable {X : Cx} {K : PySem.W.Frag} {a b c e : Expr} {es : List Expr} {ta tb tc te : TD} {t : TAD} {pos : Pos}

/-! ### rows of arguments, displays -/
def dNil : TAD := fun _ cs R => R [] cs
def dCons (ta : TD) (t : TAD) : TAD := fun ρ cs R => ta ρ cs fun x cs1 => t ρ cs1 fun xs cs2 => R (x :: xs) cs2
theorem ea_nil : PA X [] (upA X.K dNil) := by
  refine pa_nil.weak ?_
  rintro σ H Q ⟨G, π, ρ, cs, R, A, s, q, k⟩
  exact k _ _ _ _ _ _ .refl A .nil q
theorem ea_cons (ha : PE X e (upE X.K te)) (hr : PA X es (upA X.K t)) (hs : starEach (e :: es) X.env = (false, eval e X.env) :: starEach es X.env := by rfl) : PA X (e :: es) (upA X.K (dCons te t)) := by
  refine (pa_cons ha hr hs).weak ?_
  rintro σ H Q ⟨G, π, ρ, cs, R, A, s, q, k⟩
  refine ⟨G, π, ρ, cs, _, A, s, q, fun v1 H1 x cs1 G1 π1 E1 A1 r1 q1 => ⟨G1, π1, ρ, cs1, _, A1, s.ext E1, q1, fun v2 H2 y cs2 G2 π2 E2 A2 r2 q2 => ?_⟩⟩
  exact k _ _ _ _ _ _ (E1.trans E2) A2 (.cons (r1.ext E2) r2) q2
def datas : List S → Option (List PyData)
  | [] => some []
  | .d x :: r => (datas r).map (x :: ·)
  | .ref _ :: _ => none
theorem datas_eq : ∀ {xs : List S} {ds : List PyData}, datas xs = some ds → xs = ds.map S.d
  | [], ds, h => by cases h; rfl
  | .d x :: r, ds, h => by
    unfold datas at h
    cases e : datas r with
    | none => rw [e] at h; cases h
    | some es => rw [e] at h; cases h; rw [List.map_cons, ← datas_eq e]
  | .ref _ :: _, ds, h => by cases h
theorem datas_map (ds : List PyData) : datas (ds.map S.d) = some ds := by
  induction ds with
  | nil => rfl
  | cons d ds ih => rw [List.map_cons, datas, ih]; rfl
def dTup (t : TAD) : TD := fun ρ cs R => t ρ cs fun xs cs1 => ∃ ds, datas xs = some ds ∧ ds.length ≤ sizeLine ∧ R (.d (.tuple ds)) cs1
def dLst (t : TAD) : TD := fun ρ cs R => t ρ cs fun xs cs1 => ∃ ds, datas xs = some ds ∧ ds.length ≤ sizeLine ∧ R (.d (.list ds)) cs1
/-- a list that will be written -/
def dLstM (t : TAD) : TD := fun ρ cs R => t ρ cs fun xs cs1 => xs.length ≤ sizeLine ∧ R (.ref cs1.length) (cs1 ++ [some xs])
theorem new_tup {G H : Hp} {π : List Addr} {cs : Sto} {vs : List V} {ds : List PyData} (A : At K G π cs H) (r : DpAll K G vs ds) {p : Addr} (hp : H p = none) :
    ∃ G', At K G' π cs (upd H p (.tup vs)) ∧ Ext G π H G' π (upd H p (.tup vs)) ∧ RepS K G' π (.ref p) (.d (.tuple ds)) := by
  obtain ⟨A1, E1⟩ := A.new hp (.tup vs)
  exact ⟨_, A1, E1, .d (.tup (.of upd_same) (dpAll_mono E1.g r))⟩
theorem new_lst {G H : Hp} {π : List Addr} {cs : Sto} {vs : List V} {ds : List PyData} (A : At K G π cs H) (r : DpAll K G vs ds) {p : Addr} (hp : H p = none) :
    ∃ G', At K G' π cs (upd H p (.lst vs)) ∧ Ext G π H G' π (upd H p (.lst vs)) ∧ RepS K G' π (.ref p) (.d (.list ds)) := by
  obtain ⟨A1, E1⟩ := A.new hp (.lst vs)
  exact ⟨_, A1, E1, .d (.lst (.of upd_same) (dpAll_mono E1.g r))⟩
theorem new_cell {G H : Hp} {π : List Addr} {cs : Sto} {vs : List V} {xs : List S} (A : At K G π cs H) (r : RepL K G π vs xs) {p : Addr} (hp : H p = none) :
    At K G (π ++ [p]) (cs ++ [some xs]) (upd H p (.lst vs)) ∧ Ext G π H G (π ++ [p]) (upd H p (.lst vs)) ∧ RepS K G (π ++ [p]) (.ref p) (.ref cs.length) := by
  obtain ⟨A1, E1⟩ := A.newM hp r
  exact ⟨A1, E1, .ref (by rw [← A.len]; simp)⟩
theorem ee_tup {x1} (h : PA X es (upA X.K t)) : PE X (.Tuple es x1 pos) (upE X.K (dTup t)) := by
  refine (pe_tup h).weak ?_
  rintro σ H Q ⟨G, π, ρ, cs, R, A, s, q, k⟩
  refine ⟨G, π, ρ, cs, _, A, s, q, fun vs H1 xs cs1 G1 π1 E1 A1 r1 q1 => ?_⟩
  obtain ⟨ds, e, z, q1⟩ := q1
  rw [datas_eq e] at r1
  refine ⟨by rw [r1.len, List.length_map]; exact z, fun p hp => ?_⟩
  obtain ⟨G2, A2, E2, r2⟩ := new_tup A1 (dpAll_of r1) hp
  exact k _ _ _ _ _ _ (E1.trans E2) A2 r2 q1
theorem ee_lst (h : PA X es (upA X.K t)) : PE X (.List es pos) (upE X.K (dLst t)) := by
  refine (pe_lst h).weak ?_
  rintro σ H Q ⟨G, π, ρ, cs, R, A, s, q, k⟩
  refine ⟨G, π, ρ, cs, _, A, s, q, fun vs H1 xs cs1 G1 π1 E1 A1 r1 q1 => ?_⟩
  obtain ⟨ds, e, z, q1⟩ := q1
  rw [datas_eq e] at r1
  refine ⟨by rw [r1.len, List.length_map]; exact z, fun p hp => ?_⟩
  obtain ⟨G2, A2, E2, r2⟩ := new_lst A1 (dpAll_of r1) hp
  exact k _ _ _ _ _ _ (E1.trans E2) A2 r2 q1
theorem ee_lstM (h : PA X es (upA X.K t)) : PE X (.List es pos) (upE X.K (dLstM t)) := by
  refine (pe_lst h).weak ?_
  rintro σ H Q ⟨G, π, ρ, cs, R, A, s, q, k⟩
  refine ⟨G, π, ρ, cs, _, A, s, q, fun vs H1 xs cs1 G1 π1 E1 A1 r1 q1 => ?_⟩
  refine ⟨by rw [r1.len]; exact q1.1, fun p hp => ?_⟩
  obtain ⟨A2, E2, r2⟩ := new_cell A1 r1 hp
  exact k _ _ _ _ _ _ (E1.trans E2) A2 r2 q1.2

/-! ### subscripts -/
def dIxR : S → S → Sto → RK → Prop
  | .d (.list ds), y, cs, R => ∃ i d, y = si i ∧ atI ds i = some d ∧ R (.d d) cs
  | .d (.tuple ds), y, cs, R => ∃ i d, y = si i ∧ atI ds i = some d ∧ R (.d d) cs
  | .d (.str z), y, cs, R => ∃ i c, y = si i ∧ z.length ≤ sizeLine ∧ atI z.cps.toList i = some c ∧ R (.d (.str ⟨#[c]⟩)) cs
  | .ref n, y, cs, R => ∃ i xs x, y = si i ∧ getC cs n = some xs ∧ atI xs i = some x ∧ R x cs
  | _, _, _, _ => False
theorem atI_rep {α β : Type} {F : α → β → Prop} {xs : List α} {ys : List β} {i : Int} {y : β} (hl : xs.length = ys.length) (g : ∀ (j : Nat) (y : β), ys[j]? = some y → ∃ x, xs[j]? = some x ∧ F x y) (h : atI ys i = some y) : ∃ x, atI xs i = some x ∧ F x y := by
  unfold atI at h ⊢
  rw [hl]
  cases e : ixN ys.length i with
  | none => rw [e] at h; cases h
  | some j =>
    rw [e] at h
    obtain ⟨x, h1, h2⟩ := g j y h
    exact ⟨x, h1, h2⟩
theorem sim_Ix : Sim2 K (rIx K) dIxR := by
  intro G π cs H v w x y R Q A rv rw q k
  cases rv with
  | d rv =>
    cases rv with
    | lst h r =>
      obtain ⟨i, d, rfl, e, q⟩ := q
      cases rw with
      | d rw =>
        cases rw
        obtain ⟨u, h1, h2⟩ := atI_rep (F := fun v d => Dp K G v d) (DpAll.len r) (fun j y e => DpAll.get r e) e
        exact .inl ⟨_, _, i, u, rfl, rfl, A.kn.seq h, h1, k _ _ _ _ _ _ .refl A (.d h2) q⟩
    | tup h r =>
      obtain ⟨i, d, rfl, e, q⟩ := q
      cases rw with
      | d rw =>
        cases rw
        obtain ⟨u, h1, h2⟩ := atI_rep (F := fun v d => Dp K G v d) (DpAll.len r) (fun j y e => DpAll.get r e) e
        exact .inr (.inl ⟨_, _, i, u, rfl, rfl, seqT_mono A.kn h, h1, k _ _ _ _ _ _ .refl A (.d h2) q⟩)
    | str z =>
      obtain ⟨i, c, rfl, hz, e, q⟩ := q
      cases rw with
      | d rw =>
        cases rw
        exact .inr (.inr ⟨z, i, c, rfl, rfl, hz, e, k _ _ _ _ _ _ .refl A (.d (.str _)) q⟩)
    | non => exact q.elim
    | bl => exact q.elim
    | int => exact q.elim
  | ref hn =>
    obtain ⟨i, xs, x, rfl, e1, e, q⟩ := q
    cases rw with
    | d rw =>
      cases rw
      obtain ⟨_, vs, e2, rl⟩ := A.st _ _ _ hn (getC_eq e1)
      obtain ⟨u, h1, h2⟩ := atI_rep (F := fun v d => RepS K G π v d) rl.len (fun j y e => RepL.get rl e) e
      exact .inl ⟨_, _, i, u, rfl, rfl, .of e2, h1, k _ _ _ _ _ _ .refl A h2 q⟩
theorem ee_ix (ha : PE X a (upE X.K ta)) (hb : PE X b (upE X.K tb)) (hs : PlainIx b := by exact fun _ _ => rfl) : PE X (.Subscript a b pos) (upE X.K (dOp dIxR ta tb)) := (pe_ix ix_seq ha hb hs).weak (up_op sim_Ix)
/-- x[k], k written -/
def ixkR (n : Nat) : S → Sto → RK → Prop
  | .d (.list ds), cs1, R => ∃ d, ds[n]? = some d ∧ R (.d d) cs1
  | .d (.tuple ds), cs1, R => ∃ d, ds[n]? = some d ∧ R (.d d) cs1
  | .ref m, cs1, R => ∃ xs x, getC cs1 m = some xs ∧ xs[n]? = some x ∧ R x cs1
  | _, _, _ => False
def dIxK (n : Nat) (ta : TD) : TD := fun ρ cs R => ta ρ cs fun x cs1 => ixkR n x cs1 R
theorem ee_ixk {n : Nat} {j : Nat} {pos2 : Pos} {i : Int} (hi : i = (n : Int)) (ha : PE X a (upE X.K ta)) (hs : PlainIx (.Constant (.int i) j pos2) := by exact fun _ _ => rfl) :
    PE X (.Subscript a (.Constant (.int i) j pos2) pos) (upE X.K (dIxK n ta)) := by
  subst hi
  refine (pe_ix ix_seq ha ee_int hs).weak ?_
  rintro σ H Q ⟨G, π, ρ, cs, R, A, s, q, k⟩
  refine ⟨G, π, ρ, cs, _, A, s, q, fun v1 H1 x cs1 G1 π1 E1 A1 r1 q1 => ⟨G1, π1, ρ, cs1, _, A1, s.ext E1, (show dC (.int (n : Int)) ρ cs1 (fun z cs2 => z = si (n : Int) ∧ cs2 = cs1) from ⟨rfl, rfl⟩), fun v2 H2 y cs2 G2 π2 E2 A2 r2 q2 => ?_⟩⟩
  obtain ⟨rfl, rfl⟩ := q2
  refine sim_Ix G2 π2 cs2 H2 v1 v2 x _ R Q A2 (r1.ext E2) r2 ?_ fun v3 H3 z cs3 G3 π3 E3 A3 r3 q3 => k _ _ _ _ _ _ (E1.trans (E2.trans E3)) A3 r3 q3
  cases x with
  | d x =>
    cases x with
    | list ds => obtain ⟨d, e, q⟩ := q1; exact ⟨_, d, rfl, atI_nat e, q⟩
    | tuple ds => obtain ⟨d, e, q⟩ := q1; exact ⟨_, d, rfl, atI_nat e, q⟩
    | _ => exact q1.elim
  | ref m => obtain ⟨xs, x, e0, e, q⟩ := q1; exact ⟨_, xs, x, rfl, e0, atI_nat e, q⟩
/-! slices -/
abbrev TOD := Ev → Sto → (Option Int → Sto → Prop) → Prop
def upO (K : PySem.W.Frag) (t : TOD) : TO := fun σ H Q => ∃ G π ρ cs R, At K G π cs H ∧ Sl K G π σ ρ ∧ t ρ cs R ∧ ∀ o H' cs' G' π', Ext G π H G' π' H' → At K G' π' cs' H' → R o cs' → Q o H'
theorem _root_.L2.PO.weak {e : Option Expr} {t t' : TO} (h : PO X e t) (hw : ∀ σ H Q, t' σ H Q → t σ H Q) : PO X e t' := ⟨fun pins s σ H Q I q => h.run pins s σ H Q I (hw _ _ _ q)⟩
def dNoPart : TOD := fun _ cs R => R none cs
def dPart (t : TD) : TOD := fun ρ cs R => t ρ cs fun x cs1 => ∃ i, x = si i ∧ R (some i) cs1
theorem eo_none : PO X none (upO X.K dNoPart) := by
  refine po_none.weak ?_
  rintro σ H Q ⟨G, π, ρ, cs, R, A, s, q, k⟩
  exact k _ _ _ _ _ .refl A q
theorem eo_some (h : PE X e (upE X.K te)) : PO X (some e) (upO X.K (dPart te)) := by
  refine (po_some h).weak ?_
  rintro σ H Q ⟨G, π, ρ, cs, R, A, s, q, k⟩
  refine ⟨G, π, ρ, cs, _, A, s, q, fun v1 H1 x cs1 G1 π1 E1 A1 r1 q1 => ?_⟩
  obtain ⟨i, rfl, q1⟩ := q1
  cases r1 with
  | d r1 => cases r1; exact ⟨i, rfl, k _ _ _ _ _ E1 A1 q1⟩
def cutD {α : Type} (xs : List α) (lo hi : Option Int) : List α := (xs.drop (HT.sIx xs.length 0 lo)).take (HT.sIx xs.length xs.length hi - HT.sIx xs.length 0 lo)
theorem cut_whole {α : Type} {xs : List α} {lo hi : Option Int} (h1 : HT.sIx xs.length 0 lo = 0) (h2 : HT.sIx xs.length xs.length hi = xs.length) : cutD xs lo hi = xs := by
  unfold cutD
  rw [h1, h2, List.drop_zero, Nat.sub_zero, List.take_length]
def dSlR : S → Option Int → Option Int → Sto → RK → Prop
  | .d (.list ds), lo, hi, cs, R => R (.d (.list (cutD ds lo hi))) cs
  | .d (.tuple ds), lo, hi, cs, R => R (.d (.tuple (cutD ds lo hi))) cs
  | .ref n, lo, hi, cs, R => ∃ ds, getC cs n = some (ds.map S.d) ∧ R (.d (.list (cutD ds lo hi))) cs
  | _, _, _, _, _ => False
def dSl (te : TD) (tl th : TOD) : TD := fun ρ cs R => te ρ cs fun x cs1 => tl ρ cs1 fun l cs2 => th ρ cs2 fun u cs3 => dSlR x l u cs3 R
theorem cut_dp {G : Hp} {vs : List V} {ds : List PyData} (r : DpAll K G vs ds) (lo hi : Option Int) : DpAll K G (cutV vs lo hi) (cutD ds lo hi) := by
  unfold cutV cutD
  rw [DpAll.len r]
  exact DpAll.take _ (DpAll.drop _ r)
theorem ee_sl {lo hi : Option Expr} {tl th : TOD} {p2 : Pos} (he : PE X e (upE X.K te)) (hl : PO X lo (upO X.K tl)) (hu : PO X hi (upO X.K th)) : PE X (.Subscript e (.Slice lo hi none p2) pos) (upE X.K (dSl te tl th)) := by
  refine (pe_slice (sl_list.or sl_tupA) he hl hu).weak ?_
  rintro σ H Q ⟨G, π, ρ, cs, R, A, s, q, k⟩
  refine ⟨G, π, ρ, cs, _, A, s, q, fun v1 H1 x cs1 G1 π1 E1 A1 r1 q1 => ⟨G1, π1, ρ, cs1, _, A1, s.ext E1, q1, fun l H2 cs2 G2 π2 E2 A2 q2 => ⟨G2, π2, ρ, cs2, _, A2, (s.ext E1).ext E2, q2, fun u H3 cs3 G3 π3 E3 A3 q3 => ?_⟩⟩⟩
  have r3 := (r1.ext E2).ext E3
  have E := E1.trans (E2.trans E3)
  cases r3 with
  | d r =>
    cases r with
    | lst h r =>
      refine .inl ⟨_, _, rfl, A3.kn.seq h, fun p hp => ?_⟩
      obtain ⟨G4, A4, E4, r4⟩ := new_lst A3 (cut_dp r l u) hp
      exact k _ _ _ _ _ _ (E.trans E4) A4 r4 q3
    | tup h r =>
      refine .inr ⟨_, _, rfl, seqT_mono A3.kn h, fun hw => ?_, fun _ p hp => ?_⟩
      · rw [DpAll.len r] at hw
        have q3' : R (.d (.tuple (cutD _ l u))) cs3 := q3
        rw [cut_whole hw.1 hw.2] at q3'
        exact k _ _ _ _ _ _ E A3 (.d (.tup h r)) q3'
      · obtain ⟨G4, A4, E4, r4⟩ := new_tup A3 (cut_dp r l u) hp
        exact k _ _ _ _ _ _ (E.trans E4) A4 r4 q3
    | non => exact q3.elim
    | bl => exact q3.elim
    | int => exact q3.elim
    | str => exact q3.elim
  | ref hn =>
    obtain ⟨ds, e1, q3⟩ := q3
    obtain ⟨_, vs, e2, rl⟩ := A3.st _ _ _ hn (getC_eq e1)
    refine .inl ⟨_, _, rfl, .of e2, fun p hp => ?_⟩
    obtain ⟨G4, A4, E4, r4⟩ := new_lst A3 (cut_dp (dpAll_of rl) l u) hp
    exact k _ _ _ _ _ _ (E.trans E4) A4 r4 q3
end
end FL

set_option Elab.async false
set_option linter.all false
set_option maxRecDepth 100000
set_option maxHeartbeats 1000000
namespace FL
open PySem L2

section
variable {X : Cx} {K : PySem.W.Frag} {a b c e : Expr} {es : List Expr} {ta tb tc te : TD} {t : TAD} {pos p : Pos} {x : Str}

/-! ### calls of built-ins -/
def dCB (rd : RDL) (t : TAD) : TD := fun ρ cs R => t ρ cs fun xs cs1 => rd xs cs1 R
theorem up_CB {r : List V → Hp → VK → Prop} {rd : RDL} (h : SimL K r rd) : ∀ σ H Q, upE K (dCB rd t) σ H Q → tCB r (upA K t) σ H Q := by
  rintro σ H Q ⟨G, π, ρ, cs, R, A, s, q, k⟩
  refine ⟨G, π, ρ, cs, _, A, s, q, fun vs H1 xs cs1 G1 π1 E1 A1 r1 q1 => ?_⟩
  exact h G1 π1 cs1 H1 vs xs R Q A1 r1 q1 fun v3 H3 z cs3 G3 π3 E3 A3 r3 q3 => k _ _ _ _ _ _ (E1.trans E3) A3 r3 q3
theorem ee_callB {r : List V → Hp → VK → Prop} {rd : RDL} {id : String} (h : SimL X.K r rd) (hc : CallR X (.builtin id) r) (hg : Gl X x) (hm : X.mg x = none) (hv : bootBuiltins x = some (.builtin id)) (ha : PA X (e :: es) (upA X.K t)) (hn : x ≠ "__name__" := by decide) (hdb : (x == ("__debug__" : Str)) = false := by decide)
    (he : starEach (e :: es) X.env = (false, eval e X.env) :: starEach es X.env := by rfl) (hpl : (backTo pos (starEach es X.env)).any (·.1) = false := by rfl) : PE X (.Call (.Name x p) (e :: es) [] pos) (upE X.K (dCB rd t)) :=
  (pe_callB hc hg hm hv ha hn hdb he hpl).weak (up_CB h)
theorem ee_callTy {r : List V → Hp → VK → Prop} {rd : RDL} {T : String} (h : SimL X.K r rd) (hc : CallR X (.type T) r) (hg : Gl X x) (hm : X.mg x = none) (hv : bootBuiltins x = some (.type T)) (ha : PA X (e :: es) (upA X.K t)) (hn : x ≠ "__name__" := by decide) (hdb : (x == ("__debug__" : Str)) = false := by decide)
    (he : starEach (e :: es) X.env = (false, eval e X.env) :: starEach es X.env := by rfl) (hpl : (backTo pos (starEach es X.env)).any (·.1) = false := by rfl) : PE X (.Call (.Name x p) (e :: es) [] pos) (upE X.K (dCB rd t)) :=
  (pe_callTy hc hg hm hv ha hn hdb he hpl).weak (up_CB h)

theorem repL_one {G : Hp} {π : List Addr} {vs : List V} {x : S} (r : RepL K G π vs [x]) : ∃ v, vs = [v] ∧ RepS K G π v x := by
  cases r with
  | cons r rr => cases rr; exact ⟨_, rfl, r⟩
theorem repL_two {G : Hp} {π : List Addr} {vs : List V} {x y : S} (r : RepL K G π vs [x, y]) : ∃ v w, vs = [v, w] ∧ RepS K G π v x ∧ RepS K G π w y := by
  cases r with
  | cons r rr => cases rr with
    | cons r' rr => cases rr; exact ⟨_, _, rfl, r, r'⟩
theorem rep_int {G : Hp} {π : List Addr} {v : V} {i : Int} (r : RepS K G π v (si i)) : v = .int i := by
  cases r with
  | d r => cases r; rfl
theorem rep_bl {G : Hp} {π : List Addr} {v : V} {i : Bool} (r : RepS K G π v (sb i)) : v = .bl i := by
  cases r with
  | d r => cases r; rfl
/-- a list that is read: its address, its values -/
theorem rep_list {G H : Hp} {π : List Addr} {cs : Sto} {v : V} {ds : List PyData} (A : At K G π cs H) (r : RepS K G π v (.d (.list ds))) : ∃ p vs, v = .ref p ∧ SqL K H p vs ∧ DpAll K G vs ds := by
  cases r with
  | d r => cases r with
    | lst h r => exact ⟨_, _, rfl, A.kn.seq h, r⟩
theorem rep_tup {G H : Hp} {π : List Addr} {cs : Sto} {v : V} {ds : List PyData} (A : At K G π cs H) (r : RepS K G π v (.d (.tuple ds))) : ∃ p vs, v = .ref p ∧ SqT K H p vs ∧ DpAll K G vs ds := by
  cases r with
  | d r => cases r with
    | tup h r => exact ⟨_, _, rfl, seqT_mono A.kn h, r⟩
theorem rep_ref {G H : Hp} {π : List Addr} {cs : Sto} {v : V} {n : Nat} {xs : List S} (A : At K G π cs H) (r : RepS K G π v (.ref n)) (e : getC cs n = some xs) : ∃ p vs, v = .ref p ∧ π[n]? = some p ∧ H p = some (.lst vs) ∧ RepL K G π vs xs := by
  cases r with
  | ref h =>
    obtain ⟨_, vs, e2, rl⟩ := A.st _ _ _ h (getC_eq e)
    exact ⟨_, vs, rfl, h, e2, rl⟩

/-- abs(n) -/
def cAbs : RDL := fun xs cs R => ∃ i, xs = [si i] ∧ R (si (if i < 0 then -i else i)) cs
theorem sim_abs : SimL K (fun xs H Q => ∃ i, xs = [.int i] ∧ Q (.int (if i < 0 then -i else i)) H) cAbs := by
  rintro G π cs H vs xs R Q A r ⟨i, rfl, q⟩ k
  obtain ⟨v, rfl, r0⟩ := repL_one r
  rw [rep_int r0]
  exact ⟨i, rfl, k _ _ _ _ _ _ .refl A (.d (.int _)) q⟩
theorem ec_abs (hg : Gl X "abs") (hm : X.mg "abs" = none) (ha : PA X (e :: es) (upA X.K t)) (he : starEach (e :: es) X.env = (false, eval e X.env) :: starEach es X.env := by rfl) (hpl : (backTo pos (starEach es X.env)).any (·.1) = false := by rfl) :
    PE X (.Call (.Name "abs" p) (e :: es) [] pos) (upE X.K (dCB cAbs t)) := ee_callB sim_abs call_abs hg hm (by decide +kernel) ha (by decide) (by decide) he hpl
/-- max(a, b), min(a, b) -/
def cMax2 : RDL := fun xs cs R => ∃ i j, xs = [si i, si j] ∧ R (si (if j > i then j else i)) cs
def cMin2 : RDL := fun xs cs R => ∃ i j, xs = [si i, si j] ∧ R (si (if j < i then j else i)) cs
theorem sim_max2 : SimL K (fun xs H Q => ∃ i j, xs = [.int i, .int j] ∧ Q (.int (if j > i then j else i)) H) cMax2 := by
  rintro G π cs H vs xs R Q A r ⟨i, j, rfl, q⟩ k
  obtain ⟨v, w, rfl, r0, r1⟩ := repL_two r
  rw [rep_int r0, rep_int r1]
  exact ⟨i, j, rfl, k _ _ _ _ _ _ .refl A (.d (.int _)) q⟩
theorem sim_min2 : SimL K (fun xs H Q => ∃ i j, xs = [.int i, .int j] ∧ Q (.int (if j < i then j else i)) H) cMin2 := by
  rintro G π cs H vs xs R Q A r ⟨i, j, rfl, q⟩ k
  obtain ⟨v, w, rfl, r0, r1⟩ := repL_two r
  rw [rep_int r0, rep_int r1]
  exact ⟨i, j, rfl, k _ _ _ _ _ _ .refl A (.d (.int _)) q⟩
theorem ec_max2 (hc : X.calm = true) (hg : Gl X "max") (hm : X.mg "max" = none) (ha : PA X (e :: es) (upA X.K t)) (he : starEach (e :: es) X.env = (false, eval e X.env) :: starEach es X.env := by rfl) (hpl : (backTo pos (starEach es X.env)).any (·.1) = false := by rfl) :
    PE X (.Call (.Name "max" p) (e :: es) [] pos) (upE X.K (dCB cMax2 t)) := ee_callB sim_max2 (call_max2 hc) hg hm (by decide +kernel) ha (by decide) (by decide) he hpl
theorem ec_min2 (hc : X.calm = true) (hg : Gl X "min") (hm : X.mg "min" = none) (ha : PA X (e :: es) (upA X.K t)) (he : starEach (e :: es) X.env = (false, eval e X.env) :: starEach es X.env := by rfl) (hpl : (backTo pos (starEach es X.env)).any (·.1) = false := by rfl) :
    PE X (.Call (.Name "min" p) (e :: es) [] pos) (upE X.K (dCB cMin2 t)) := ee_callB sim_min2 (call_min2 hc) hg hm (by decide +kernel) ha (by decide) (by decide) he hpl
/-- int(n), int(b) -/
def cInt : RDL
  | [.d (.int i)], cs, R => R (si i) cs
  | [.d (.bool b)], cs, R => R (si (if b then 1 else 0)) cs
  | _, _, _ => False
theorem sim_int : SimL K (fun xs H Q => (∃ i, xs = [.int i] ∧ Q (.int i) H) ∨ ∃ k, xs = [.bl k] ∧ Q (.int (if k then 1 else 0)) H) cInt := by
  intro G π cs H vs xs R Q A r q k
  unfold cInt at q
  split at q
  · obtain ⟨v, rfl, r0⟩ := repL_one r
    rw [rep_int r0]
    exact .inl ⟨_, rfl, k _ _ _ _ _ _ .refl A (.d (.int _)) q⟩
  · obtain ⟨v, rfl, r0⟩ := repL_one r
    rw [rep_bl r0]
    exact .inr ⟨_, rfl, k _ _ _ _ _ _ .refl A (.d (.int _)) q⟩
  · exact q.elim
theorem ec_int (hg : Gl X "int") (hm : X.mg "int" = none) (ha : PA X (e :: es) (upA X.K t)) (he : starEach (e :: es) X.env = (false, eval e X.env) :: starEach es X.env := by rfl) (hpl : (backTo pos (starEach es X.env)).any (·.1) = false := by rfl) :
    PE X (.Call (.Name "int" p) (e :: es) [] pos) (upE X.K (dCB cInt t)) := ee_callTy sim_int call_int1 hg hm (by decide +kernel) ha (by decide) (by decide) he hpl
/-- len(x) -/
def cLen : RDL
  | [.d (.list ds)], cs, R => R (si (ds.length : Int)) cs
  | [.d (.tuple ds)], cs, R => R (si (ds.length : Int)) cs
  | [.d (.str z)], cs, R => z.length ≤ sizeLine ∧ R (si (z.length : Int)) cs
  | [.ref n], cs, R => ∃ xs, getC cs n = some xs ∧ R (si (xs.length : Int)) cs
  | _, _, _ => False
theorem sim_len : SimL K (fun xs H Q => (∃ p ys, xs = [.ref p] ∧ (SqL K H p ys ∨ SqT K H p ys) ∧ Q (.int ys.length) H) ∨ ∃ z, xs = [.str z] ∧ z.length ≤ sizeLine ∧ Q (.int z.length) H) cLen := by
  intro G π cs H vs xs R Q A r q k
  unfold cLen at q
  split at q
  · obtain ⟨v, rfl, r0⟩ := repL_one r
    obtain ⟨p, vs, rfl, h, rr⟩ := rep_list A r0
    exact .inl ⟨p, vs, rfl, .inl h, by rw [DpAll.len rr]; exact k _ _ _ _ _ _ .refl A (.d (.int _)) q⟩
  · obtain ⟨v, rfl, r0⟩ := repL_one r
    obtain ⟨p, vs, rfl, h, rr⟩ := rep_tup A r0
    exact .inl ⟨p, vs, rfl, .inr h, by rw [DpAll.len rr]; exact k _ _ _ _ _ _ .refl A (.d (.int _)) q⟩
  · obtain ⟨v, rfl, r0⟩ := repL_one r
    cases r0 with
    | d r => cases r; exact .inr ⟨_, rfl, q.1, k _ _ _ _ _ _ .refl A (.d (.int _)) q.2⟩
  · obtain ⟨v, rfl, r0⟩ := repL_one r
    obtain ⟨ys, e, q⟩ := q
    obtain ⟨p, vs, rfl, _, h, rr⟩ := rep_ref A r0 e
    exact .inl ⟨p, vs, rfl, .inl (.of h), by rw [rr.len]; exact k _ _ _ _ _ _ .refl A (.d (.int _)) q⟩
  · exact q.elim
theorem ec_len (hg : Gl X "len") (hm : X.mg "len" = none) (ha : PA X (e :: es) (upA X.K t)) (he : starEach (e :: es) X.env = (false, eval e X.env) :: starEach es X.env := by rfl) (hpl : (backTo pos (starEach es X.env)).any (·.1) = false := by rfl) :
    PE X (.Call (.Name "len" p) (e :: es) [] pos) (upE X.K (dCB cLen t)) := ee_callB sim_len (call_len_seq.or call_len_str) hg hm PySem.boot_len ha (by decide) (by decide) he hpl
/-- sum(xs) of ints -/
def intsOf : List PyData → Option (List Int)
  | [] => some []
  | .int i :: r => (intsOf r).map (i :: ·)
  | _ :: _ => none
theorem intsOf_eq : ∀ {ds : List PyData} {ns : List Int}, intsOf ds = some ns → ds = ns.map PyData.int
  | [], ns, h => by cases h; rfl
  | d :: r, ns, h => by
    cases d <;> try (cases h; done)
    unfold intsOf at h
    cases e : intsOf r with
    | none => rw [e] at h; cases h
    | some es => rw [e] at h; cases h; rw [List.map_cons, ← intsOf_eq e]
theorem intsOf_map (ns : List Int) : intsOf (ns.map PyData.int) = some ns := by
  induction ns with
  | nil => rfl
  | cons d ds ih => rw [List.map_cons, intsOf, ih]; rfl
theorem dp_ints {G : Hp} : ∀ {ns : List Int} {vs : List V}, DpAll K G vs (ns.map PyData.int) → vs = ns.map V.int
  | [], _, h => by cases h; rfl
  | n :: ns, _, h => by
    cases h with
    | cons h r => cases h; rw [dp_ints r]; rfl
def cSum : RDL
  | [.d (.list ds)], cs, R => ∃ ns, intsOf ds = some ns ∧ R (si ns.sum) cs
  | [.ref n], cs, R => ∃ xs ds ns, getC cs n = some xs ∧ datas xs = some ds ∧ intsOf ds = some ns ∧ R (si ns.sum) cs
  | _, _, _ => False
theorem sim_sum : SimL K (rSum K) cSum := by
  intro G π cs H vs xs R Q A r q k
  unfold cSum at q
  split at q
  · obtain ⟨ns, e, q⟩ := q
    obtain ⟨v, rfl, r0⟩ := repL_one r
    obtain ⟨p, vs, rfl, h, rr⟩ := rep_list A r0
    rw [intsOf_eq e] at rr
    rw [dp_ints rr] at h
    exact ⟨p, ns, rfl, h, k _ _ _ _ _ _ .refl A (.d (.int _)) q⟩
  · obtain ⟨ys, ds, ns, e, e2, e3, q⟩ := q
    obtain ⟨v, rfl, r0⟩ := repL_one r
    obtain ⟨p, vs, rfl, _, h, rr⟩ := rep_ref A r0 e
    rw [datas_eq e2] at rr
    have rr := dpAll_of rr
    rw [intsOf_eq e3] at rr
    rw [dp_ints rr] at h
    exact ⟨p, ns, rfl, .of h, k _ _ _ _ _ _ .refl A (.d (.int _)) q⟩
  · exact q.elim
theorem ec_sum (hc : X.calm = true) (hg : Gl X "sum") (hm : X.mg "sum" = none) (ha : PA X (e :: es) (upA X.K t)) (he : starEach (e :: es) X.env = (false, eval e X.env) :: starEach es X.env := by rfl) (hpl : (backTo pos (starEach es X.env)).any (·.1) = false := by rfl) :
    PE X (.Call (.Name "sum" p) (e :: es) [] pos) (upE X.K (dCB cSum t)) := ee_callB sim_sum (cr_sum hc) hg hm (by decide +kernel) ha (by decide) (by decide) he hpl
/-- tuple(x) -/
def cTup : RDL
  | [.d (.list ds)], cs, R => R (.d (.tuple ds)) cs
  | [.d (.tuple ds)], cs, R => R (.d (.tuple ds)) cs
  | [.ref n], cs, R => ∃ xs ds, getC cs n = some xs ∧ datas xs = some ds ∧ R (.d (.tuple ds)) cs
  | _, _, _ => False
theorem sim_tupC : SimL K (fun xs H Q => ∃ p ys, xs = [.ref p] ∧ ((SqL K H p ys ∧ ∀ l, H l = none → Q (.ref l) (upd H l (.tup ys))) ∨ (SqT K H p ys ∧ Q (.ref p) H))) cTup := by
  intro G π cs H vs xs R Q A r q k
  unfold cTup at q
  split at q
  · obtain ⟨v, rfl, r0⟩ := repL_one r
    obtain ⟨p, vs, rfl, h, rr⟩ := rep_list A r0
    refine ⟨p, vs, rfl, .inl ⟨h, fun l hl => ?_⟩⟩
    obtain ⟨G2, A2, E2, r2⟩ := new_tup A rr hl
    exact k _ _ _ _ _ _ E2 A2 r2 q
  · obtain ⟨v, rfl, r0⟩ := repL_one r
    obtain ⟨p, vs, rfl, h, rr⟩ := rep_tup A r0
    exact ⟨p, vs, rfl, .inr ⟨h, k _ _ _ _ _ _ .refl A r0 q⟩⟩
  · obtain ⟨ys, ds, e, e2, q⟩ := q
    obtain ⟨v, rfl, r0⟩ := repL_one r
    obtain ⟨p, vs, rfl, _, h, rr⟩ := rep_ref A r0 e
    rw [datas_eq e2] at rr
    refine ⟨p, vs, rfl, .inl ⟨.of h, fun l hl => ?_⟩⟩
    obtain ⟨G2, A2, E2, r2⟩ := new_tup A (dpAll_of rr) hl
    exact k _ _ _ _ _ _ E2 A2 r2 q
  · exact q.elim
theorem ec_tuple (hg : Gl X "tuple") (hm : X.mg "tuple" = none) (ha : PA X (e :: es) (upA X.K t)) (he : starEach (e :: es) X.env = (false, eval e X.env) :: starEach es X.env := by rfl) (hpl : (backTo pos (starEach es X.env)).any (·.1) = false := by rfl) :
    PE X (.Call (.Name "tuple" p) (e :: es) [] pos) (upE X.K (dCB cTup t)) := ee_callTy sim_tupC call_tuple_of hg hm (by decide +kernel) ha (by decide) (by decide) he hpl
/-- list(x): a new list; one that will be written -/
def cList : RDL
  | [.d (.list ds)], cs, R => R (.d (.list ds)) cs
  | [.d (.tuple ds)], cs, R => R (.d (.list ds)) cs
  | [.ref n], cs, R => ∃ xs ds, getC cs n = some xs ∧ datas xs = some ds ∧ R (.d (.list ds)) cs
  | _, _, _ => False
def cListM : RDL
  | [.d (.list ds)], cs, R => R (.ref cs.length) (cs ++ [some (ds.map S.d)])
  | [.d (.tuple ds)], cs, R => R (.ref cs.length) (cs ++ [some (ds.map S.d)])
  | [.ref n], cs, R => ∃ xs, getC cs n = some xs ∧ R (.ref cs.length) (cs ++ [some xs])
  | _, _, _ => False
abbrev rListOf (K : PySem.W.Frag) : List V → Hp → VK → Prop := fun xs H Q => ∃ p ys, xs = [.ref p] ∧ (SqL K H p ys ∨ SqT K H p ys) ∧ ∀ l, H l = none → Q (.ref l) (upd H l (.lst ys))
theorem sim_listC : SimL K (rListOf K) cList := by
  intro G π cs H vs xs R Q A r q k
  unfold cList at q
  split at q
  · obtain ⟨v, rfl, r0⟩ := repL_one r
    obtain ⟨p, vs, rfl, h, rr⟩ := rep_list A r0
    refine ⟨p, vs, rfl, .inl h, fun l hl => ?_⟩
    obtain ⟨G2, A2, E2, r2⟩ := new_lst A rr hl
    exact k _ _ _ _ _ _ E2 A2 r2 q
  · obtain ⟨v, rfl, r0⟩ := repL_one r
    obtain ⟨p, vs, rfl, h, rr⟩ := rep_tup A r0
    refine ⟨p, vs, rfl, .inr h, fun l hl => ?_⟩
    obtain ⟨G2, A2, E2, r2⟩ := new_lst A rr hl
    exact k _ _ _ _ _ _ E2 A2 r2 q
  · obtain ⟨ys, ds, e, e2, q⟩ := q
    obtain ⟨v, rfl, r0⟩ := repL_one r
    obtain ⟨p, vs, rfl, _, h, rr⟩ := rep_ref A r0 e
    rw [datas_eq e2] at rr
    refine ⟨p, vs, rfl, .inl (.of h), fun l hl => ?_⟩
    obtain ⟨G2, A2, E2, r2⟩ := new_lst A (dpAll_of rr) hl
    exact k _ _ _ _ _ _ E2 A2 r2 q
  · exact q.elim
theorem sim_listM : SimL K (rListOf K) cListM := by
  intro G π cs H vs xs R Q A r q k
  unfold cListM at q
  split at q
  · obtain ⟨v, rfl, r0⟩ := repL_one r
    obtain ⟨p, vs, rfl, h, rr⟩ := rep_list A r0
    refine ⟨p, vs, rfl, .inl h, fun l hl => ?_⟩
    obtain ⟨A2, E2, r2⟩ := new_cell A (repL_d rr) hl
    exact k _ _ _ _ _ _ E2 A2 r2 q
  · obtain ⟨v, rfl, r0⟩ := repL_one r
    obtain ⟨p, vs, rfl, h, rr⟩ := rep_tup A r0
    refine ⟨p, vs, rfl, .inr h, fun l hl => ?_⟩
    obtain ⟨A2, E2, r2⟩ := new_cell A (repL_d rr) hl
    exact k _ _ _ _ _ _ E2 A2 r2 q
  · obtain ⟨ys, e, q⟩ := q
    obtain ⟨v, rfl, r0⟩ := repL_one r
    obtain ⟨p, vs, rfl, _, h, rr⟩ := rep_ref A r0 e
    refine ⟨p, vs, rfl, .inl (.of h), fun l hl => ?_⟩
    obtain ⟨A2, E2, r2⟩ := new_cell A rr hl
    exact k _ _ _ _ _ _ E2 A2 r2 q
  · exact q.elim
theorem ec_list (hg : Gl X "list") (hm : X.mg "list" = none) (ha : PA X (e :: es) (upA X.K t)) (he : starEach (e :: es) X.env = (false, eval e X.env) :: starEach es X.env := by rfl) (hpl : (backTo pos (starEach es X.env)).any (·.1) = false := by rfl) :
    PE X (.Call (.Name "list" p) (e :: es) [] pos) (upE X.K (dCB cList t)) := ee_callTy sim_listC call_list_of hg hm (by decide +kernel) ha (by decide) (by decide) he hpl
theorem ec_listM (hg : Gl X "list") (hm : X.mg "list" = none) (ha : PA X (e :: es) (upA X.K t)) (he : starEach (e :: es) X.env = (false, eval e X.env) :: starEach es X.env := by rfl) (hpl : (backTo pos (starEach es X.env)).any (·.1) = false := by rfl) :
    PE X (.Call (.Name "list" p) (e :: es) [] pos) (upE X.K (dCB cListM t)) := ee_callTy sim_listM call_list_of hg hm (by decide +kernel) ha (by decide) (by decide) he hpl
/-- isinstance(x, T), T a built-in class by its name -/
inductive Bt where
  | bool | int | str | list | tuple
def Bt.nm : Bt → String
  | .bool => "bool" | .int => "int" | .str => "str" | .list => "list" | .tuple => "tuple"
inductive Tg where
  | non | bool | int | str | list | tuple | dict
def Tg.nm : Tg → String
  | .non => "NoneType" | .bool => "bool" | .int => "int" | .str => "str" | .list => "list" | .tuple => "tuple" | .dict => "dict"
def tab : Tg → Bt → Bool
  | .bool, .bool => true
  | .bool, .int => true
  | .int, .int => true
  | .str, .str => true
  | .list, .list => true
  | .tuple, .tuple => true
  | _, _ => false
theorem kitTab (t : Tg) (T : Bt) : kitB t.nm T.nm = some (tab t T) := by cases t <;> cases T <;> decide +kernel
def tgOf : S → Tg
  | .d .none => .non
  | .d (.bool _) => .bool
  | .d (.int _) => .int
  | .d (.str _) => .str
  | .d (.list _) => .list
  | .d (.tuple _) => .tuple
  | .d (.dict _) => .dict
  | .ref _ => .list
def isTy (T : Bt) (x : S) : Bool := tab (tgOf x) T
def dIsi (T : Bt) (ta : TD) : TD := fun ρ cs R => ta ρ cs fun x cs1 => (∀ n, x = .ref n → ∃ xs, getC cs1 n = some xs) ∧ R (sb (isTy T x)) cs1
theorem tyx_l {H : Hp} {p : Addr} {vs : List V} (h : SqL K H p vs) : TyX K H (.ref p) (.type "list") := by
  rcases h with (h | ⟨o, h⟩) | ⟨o, its, n, h, hc, _⟩
  · exact .base (.lst h)
  · exact .base (.frz h)
  · exact .kList h hc
theorem tyx_t {H : Hp} {p : Addr} {vs : List V} (h : SqT K H p vs) : TyX K H (.ref p) (.type "tuple") := by
  rcases h with (h | ⟨o, h⟩) | ⟨o, its, n, h, hc, _⟩
  · exact .base (.tup h)
  · exact .fTuple h
  · exact .kTuple h hc
theorem isi_of {G H : Hp} {π : List Addr} {cs : Sto} {v : V} {x : S} (T : Bt) (A : At K G π cs H) (r : RepS K G π v x) (hx : ∀ n, x = .ref n → ∃ xs, getC cs n = some xs) : ∃ t, TyX K H v t ∧ PySem.W.kitOne K t (.type T.nm) = some (isTy T x) := by
  cases r with
  | d r =>
    cases r with
    | non => exact ⟨.type "NoneType", .base .non, kit_ty (kitTab .non T)⟩
    | bl b => exact ⟨.type "bool", .base (.bl b), kit_ty (kitTab .bool T)⟩
    | int i => exact ⟨.type "int", .base (.int i), kit_ty (kitTab .int T)⟩
    | str z => exact ⟨.type "str", .base (.str z), kit_ty (kitTab .str T)⟩
    | lst h r => exact ⟨.type "list", tyx_l (A.kn.seq h), kit_ty (kitTab .list T)⟩
    | tup h r => exact ⟨.type "tuple", tyx_t (seqT_mono A.kn h), kit_ty (kitTab .tuple T)⟩
  | ref h =>
    obtain ⟨xs, e⟩ := hx _ rfl
    obtain ⟨_, vs, e2, rl⟩ := A.st _ _ _ h (getC_eq e)
    exact ⟨.type "list", tyx_l (.of e2), kit_ty (kitTab .list T)⟩
theorem ee_isi {y : Str} {pp : Pos} (T : Bt) (hg : Gl X "isinstance") (hm : X.mg "isinstance" = none) (hgy : Gl X y) (hmy : X.mg y = none) (hvy : bootBuiltins y = some (.type T.nm)) (ha : PE X a (upE X.K ta)) (hny : y ≠ "__name__" := by decide) (hdy : (y == ("__debug__" : Str)) = false := by decide)
    (h1 : starEach [.Name y pp] X.env = (false, eval (.Name y pp) X.env) :: starEach [] X.env := by rfl)
    (h2 : starEach [a, .Name y pp] X.env = (false, eval a X.env) :: starEach [.Name y pp] X.env := by rfl) (hpl : (backTo pos (starEach [.Name y pp] X.env)).any (·.1) = false := by rfl) :
    PE X (.Call (.Name "isinstance" p) [a, .Name y pp] [] pos) (upE X.K (dIsi T ta)) := by
  have hb : PE X (.Name y pp) (tC (.ty T.nm)) := pe_bltn hgy hmy hvy rfl hny hdy
  refine (pe_callB call_isi hg hm (by decide +kernel) (pa_cons ha (pa_cons hb pa_nil h1) h2) (by decide) (by decide) h2 hpl).weak ?_
  rintro σ H Q ⟨G, π, ρ, cs, R, A, s, q, k⟩
  refine ⟨G, π, ρ, cs, _, A, s, q, fun v1 H1 x cs1 G1 π1 E1 A1 r1 q1 => ?_⟩
  obtain ⟨t, ty, e⟩ := isi_of T A1 r1 q1.1
  exact ⟨v1, .ty T.nm, t, .type T.nm, _, rfl, .ty _, ty, e, k _ _ _ _ _ _ E1 A1 (.d (.bl _)) q1.2⟩
/-- tuples added -/
def qCatT : RD2 := fun x y cs R => ∃ ds es, x = .d (.tuple ds) ∧ y = .d (.tuple es) ∧ ds.length + es.length ≤ sizeLine ∧ R (.d (.tuple (ds ++ es))) cs
theorem sim_catT : Sim2 K (rCatA K) qCatT := by
  rintro G π cs H v w x y R Q A rv rw ⟨ds, es, rfl, rfl, hz, q⟩ k
  obtain ⟨a, vs, rfl, h, r⟩ := rep_tup A rv
  obtain ⟨b, ws, rfl, h', r'⟩ := rep_tup A rw
  refine ⟨a, b, vs, ws, rfl, rfl, h, h', by rw [DpAll.len r, DpAll.len r']; exact hz, fun e => ?_, fun _ e => ?_, fun _ _ p hp => ?_⟩
  · subst e
    cases r
    exact k _ _ _ _ _ _ .refl A rw q
  · subst e
    cases r'
    rw [List.append_nil] at q
    exact k _ _ _ _ _ _ .refl A rv q
  · obtain ⟨G2, A2, E2, r2⟩ := new_tup A (DpAll.app r r') hp
    exact k _ _ _ _ _ _ E2 A2 r2 q
def qCatL : RD2 := fun x y cs R => ∃ ds es, x = .d (.list ds) ∧ y = .d (.list es) ∧ ds.length ≤ sizeLine ∧ es.length ≤ sizeLine ∧ ds.length + es.length ≤ sizeLine ∧ R (.d (.list (ds ++ es))) cs
theorem op_or_add {r r' : R2} (h : OpR X (binaryOp .Add) r) (h' : OpR X (binaryOp .Add) r') : OpR X (binaryOp .Add) (fun x y H Q => r x y H Q ∨ r' x y H Q) := h.or h'
/-- a + b of ints or of tuples -/
def qAddA : RD2 := fun x y cs R => match x with
  | .d (.int i) => ∃ j, y = si j ∧ R (si (i + j)) cs
  | .d (.tuple ds) => ∃ es, y = .d (.tuple es) ∧ ds.length + es.length ≤ sizeLine ∧ R (.d (.tuple (ds ++ es))) cs
  | _ => False
theorem ee_catT (ha : PE X a (upE X.K ta)) (hb : PE X b (upE X.K tb)) : PE X (.BinOp a .Add b pos) (upE X.K (dOp qCatT ta tb)) := ee_op sim_catT op_catA ha hb

/-! ### calls of defs -/
/-- a def's promise over data: n arguments -/
abbrev DSp := List S → Sto → RK → Prop
def spD (K : PySem.W.Frag) (n : Nat) (T : DSp) : Sp := fun vs H Q _ => vs.length = n ∧ ∃ G π cs xs R, At K G π cs H ∧ RepL K G π vs xs ∧ T xs cs R ∧ ∀ v H' x cs' G' π', Ext G π H G' π' H' → At K G' π' cs' H' → RepS K G' π' v x → R x cs' → Q v H'
def dCall (n : Nat) (T : DSp) (t : TAD) : TD := fun ρ cs R => t ρ cs fun xs cs1 => xs.length = n ∧ T xs cs1 R
theorem up_call {n : Nat} {T : DSp} {E : XK} : ∀ σ H Q, upE K (dCall n T t) σ H Q → tCall (spD K n T) [] E (upA K t) σ H Q := by
  rintro σ H Q ⟨G, π, ρ, cs, R, A, s, q, k⟩
  refine ⟨G, π, ρ, cs, _, A, s, q, fun vs H1 xs cs1 G1 π1 E1 A1 r1 q1 => ?_⟩
  show spD K n T (vs ++ []) H1 Q E
  rw [List.append_nil]
  exact ⟨by rw [r1.len]; exact q1.1, G1, π1, cs1, xs, R, A1, r1, q1.2, fun v H' z cs' G' π' E' A' r' q' => k _ _ _ _ _ _ (E1.trans E') A' r' q'⟩
/-- a def of the module, as it stands: where, what it promises -/
structure DefAt (P : Program) (w : World) (K : PySem.W.Frag) (mg : Str → Option Value) (base : Heap) (k : Nat) (nm : Str) (ps : List Str) (T : DSp) : Prop where
  ex : ∃ f fd, FnOk P w K mg base CX0 k f fd ps (spD K ps.length T) ∧ mg nm = some (.ref f) ∧ PySem.W.keepIn K (.ref f) = true ∧ Binds K fd ps []
theorem ee_call {k j n : Nat} {nm : Str} {ps : List Str} {T : DSp} (D : DefAt X.prog X.w X.K X.mg X.base k nm ps T) (hr : Room j X.A) (hj : k ≤ j) (hg : Gl X nm) (ha : PA X (e :: es) (upA X.K t)) (hdb : (nm == ("__debug__" : Str)) = false := by decide)
    (he : starEach (e :: es) X.env = (false, eval e X.env) :: starEach es X.env := by rfl) (hpl : (backTo pos (starEach es X.env)).any (·.1) = false := by rfl) (hn : ps.length = n := by rfl) : PE X (.Call (.Name nm p) (e :: es) [] pos) (upE X.K (dCall n T t)) :=
  hn ▸ let ⟨_, _, F, hm, hk, hb⟩ := D.ex
  (pe_call F (hr.mono hj) hg hm hk hb .nil pass0 ha hdb he hpl).weak up_call
theorem ee_call0 {k j : Nat} {nm : Str} {T : DSp} (D : DefAt X.prog X.w X.K X.mg X.base k nm [] T) (hr : Room j X.A) (hj : k ≤ j) (hg : Gl X nm) (hdb : (nm == ("__debug__" : Str)) = false := by decide) : PE X (.Call (.Name nm p) [] [] pos) (upE X.K (dCall 0 T dNil)) :=
  let ⟨_, _, F, hm, hk, hb⟩ := D.ex
  (pe_call0 F (hr.mono hj) hg hm hk hb .nil pass0 hdb).weak (by
    rintro σ H Q ⟨G, π, ρ, cs, R, A, s, q, k⟩
    exact ⟨rfl, G, π, cs, [], R, A, .nil, q.2, k⟩)
end
end FL

set_option Elab.async false
set_option linter.all false
set_option maxRecDepth 100000
set_option maxHeartbeats 1000000
namespace FL
open PySem L2 RZ

section
variable {X : Cx} {K : PySem.W.Frag} {a b c e tg : Expr} {es : List Expr} {ta tb tc te : TD} {t : TAD} {pos p : Pos} {x : Str}

/-! ### targets -/
theorem Chg.refl {is : List Nat} {σ : L2.St} : Chg is σ σ := ⟨rfl, fun _ _ => rfl⟩
theorem Chg.trans {is : List Nat} {σ σ1 σ2 : L2.St} (a : Chg is σ σ1) (b : Chg is σ1 σ2) : Chg is σ σ2 := ⟨b.1.trans a.1, fun i h => (b.2 i h).trans (a.2 i h)⟩
theorem Chg.mono {is js : List Nat} {σ σ1 : L2.St} (a : Chg is σ σ1) (h : ∀ i ∈ is, i ∈ js) : Chg js σ σ1 := ⟨a.1, fun i hi => a.2 i fun z => hi (h i z)⟩
theorem Chg.set {i : Nat} {σ : L2.St} {v : Option V} : Chg [i] σ (σ.set i v) := ⟨by simp, fun j hj => by rw [List.getElem?_set_ne]; intro e; exact hj (by simp [e])⟩
theorem wipe_get {σ : L2.St} {j : Nat} : ∀ {vs : List Nat}, (wipe σ vs)[j]? = if j ∈ vs ∧ j < σ.length then some none else σ[j]?
  | [] => by simp [wipe]
  | v :: vs => by
    unfold wipe
    by_cases h : v = j
    · subst h
      by_cases hl : v < σ.length
      · rw [List.getElem?_set_self (by rw [wipe_length]; exact hl)]; simp [hl]
      · rw [List.getElem?_eq_none (by rw [List.length_set, wipe_length]; omega)]
        simp [hl, List.getElem?_eq_none (Nat.le_of_not_lt hl)]
    · rw [List.getElem?_set_ne h, wipe_get (vs := vs)]
      have : j ≠ v := fun e => h e.symm
      simp [this]
theorem Chg.wipe {vs is : List Nat} {σ σ' : L2.St} (h : Chg is (L2.wipe σ vs) σ') (hs : ∀ i ∈ is, i ∈ vs) : L2.wipe σ' vs = L2.wipe σ vs := by
  have hl : σ'.length = σ.length := by rw [h.1, wipe_length]
  refine List.ext_getElem? fun j => ?_
  rw [wipe_get, wipe_get, hl]
  by_cases hj : j ∈ vs ∧ j < σ.length
  · rw [if_pos hj, if_pos hj]
  · rw [if_neg hj, if_neg hj]
    by_cases hv : j ∈ vs
    · have : ¬ j < σ.length := fun z => hj ⟨hv, z⟩
      rw [List.getElem?_eq_none (by omega), List.getElem?_eq_none (by omega)]
    · rw [h.2 j fun z => hv (hs j z), wipe_get, if_neg hj]
abbrev TGsD := List S → Ev → Sto → (Ev → Sto → Prop) → Prop
def dgName (i : Nat) : TGD := fun x ρ cs R => R (ρ.set i (some x)) cs
def dgNil : TGsD := fun xs ρ cs R => xs = [] ∧ R ρ cs
def dgCons (g : TGD) (gs : TGsD) : TGsD := fun xs ρ cs R => match xs with
  | x :: r => g x ρ cs fun ρ1 cs1 => gs r ρ1 cs1 R
  | [] => False
def dgTup (n : Nat) (gs : TGsD) : TGD
  | .d (.tuple ds), ρ, cs, R => ds.length = n ∧ gs (ds.map S.d) ρ cs R
  | _, _, _, _ => False
/-- o[i] = v, o a cell -/
def dgSub (to ti : TD) : TGD := fun v ρ cs R => to ρ cs fun o cs1 => ti ρ cs1 fun i cs2 => match o with
  | .ref n => ∃ k j xs, i = si k ∧ getC cs2 n = some xs ∧ ixN xs.length k = some j ∧ R ρ (cs2.set n (some (xs.set j v)))
  | _ => False
theorem eg_name {i : Nat} {x : Str} (hN : X.N.Nodup) (hi : X.N[i]? = some x) (hx : Loc X.env.scope x) (hf : X.fn x = true ∨ X.env.scope.names.lookup x = some .local := by first | exact .inl rfl | exact .inr rfl | assumption) : PG X (.Name x pos) (upG X.K [i] (dgName i)) := by
  refine (pg_name hN hi hx hf).weak ?_
  rintro v σ H Q ⟨G, π, ρ, cs, y, R, A, s, r, q, k⟩
  exact k _ _ _ _ _ _ .refl A (s.set i r) Chg.set q
theorem egs_nil {is : List Nat} : PGs X [] (upGs X.K is dgNil) := by
  refine ⟨fun pins s σ H vs us Q I rv h => ?_⟩
  obtain ⟨G, π, ρ, cs, xs, R, A, sl, r, ⟨rfl, q⟩, k⟩ := h
  cases r
  exact (pgs_nil (X := X)).run pins s σ H [] us Q I rv ⟨rfl, k _ _ _ _ _ _ .refl A sl .refl q⟩
theorem egs_cons {es : List Expr} {g : TGD} {gs : TGsD} {is js ks : List Nat} (h1 : PG X e (upG X.K is g)) (h2 : PGs X es (upGs X.K js gs)) (hi : ∀ i ∈ is, i ∈ ks) (hj : ∀ i ∈ js, i ∈ ks)
    (hs : (assignEach (e :: es) X.env).map (·.2) = assign e X.env :: (assignEach es X.env).map (·.2) := by rfl) : PGs X (e :: es) (upGs X.K ks (dgCons g gs)) := by
  refine ⟨fun pins s σ H vs us Q I rv h => ?_⟩
  obtain ⟨G, π, ρ, cs, xs, R, A, sl, r, q, k⟩ := h
  cases r with
  | nil => exact q.elim
  | cons r rr =>
    refine (pgs_cons h1 h2 hs).run pins s σ H _ us Q I rv ⟨_, _, rfl, G, π, ρ, cs, _, _, A, sl, r, q, fun σ1 H1 ρ1 cs1 G1 π1 E1 A1 s1 c1 q1 => ?_⟩
    exact ⟨G1, π1, ρ1, cs1, _, R, A1, s1, RepL.ext E1 rr, q1, fun σ2 H2 ρ2 cs2 G2 π2 E2 A2 s2 c2 q2 => k _ _ _ _ _ _ (E1.trans E2) A2 s2 ((c1.mono hi).trans (c2.mono hj)) q2⟩
theorem eg_tup {es : List Expr} {k : Nat} {gs : TGsD} {n : Nat} {is : List Nat} (hc : X.calm = true) (h : PGs X es (upGs X.K is gs))
    (hn : (assignEach es X.env).length = n := by rfl) (hst : (assignEach es X.env).findIdx? (·.1) = none := by rfl) : PG X (.Tuple es k pos) (upG X.K is (dgTup n gs)) := by
  refine (pg_tup hc h hn hst).weak ?_
  rintro v σ H Q ⟨G, π, ρ, cs, y, R, A, s, r, q, k⟩
  cases y with
  | ref n => exact q.elim
  | d y =>
    cases y <;> try (exact q.elim; done)
    obtain ⟨p, vs, rfl, h1, h2⟩ := rep_tup A r
    exact ⟨p, vs, rfl, h1, by rw [DpAll.len h2]; exact q.1, G, π, ρ, cs, _, R, A, s, repL_d h2, q.2, k⟩
theorem eg_sub {o i : Expr} {to ti : TD} (ho : PE X o (upE X.K to)) (hi : PE X i (upE X.K ti))
    (ha : ∀ v, assign (.Subscript o i pos) X.env v = (do
      let ov ← holding [v] (eval o X.env)
      let iv ← holding [v, ov] (eval i X.env)
      standAt pos
      holding [v, ov, iv] (setItem ov iv v)
      release [v, ov, iv] []) := by intro _; rfl) : PG X (.Subscript o i pos) (upG X.K [] (dgSub to ti)) := by
  refine (pg_sub ho hi set_list ha).weak ?_
  rintro v σ H Q ⟨G, π, ρ, cs, y, R, A, s, r, q, k⟩
  refine ⟨G, π, ρ, cs, _, A, s, q, fun v1 H1 x cs1 G1 π1 E1 A1 r1 q1 => ⟨G1, π1, ρ, cs1, _, A1, s.ext E1, q1, fun v2 H2 z cs2 G2 π2 E2 A2 r2 q2 => ?_⟩⟩
  have E := E1.trans E2
  cases x with
  | d _ => exact q2.elim
  | ref n =>
    obtain ⟨kk, j, xs, rfl, e1, e2, q2⟩ := q2
    obtain ⟨p, vs, rfl, h3, h4, h5⟩ := rep_ref A2 (r1.ext E2) e1
    rw [rep_int r2]
    obtain ⟨A3, E3⟩ := A2.put h3 (getC_eq e1) (RepL.set j h5 (r.ext E))
    refine ⟨p, vs, kk, j, rfl, rfl, h4, by rw [h5.len]; exact e2, k _ _ _ _ _ _ (E.trans E3) A3 (s.ext (E.trans E3)) .refl q2⟩

/-! ### what is walked -/
structure Src where
  its : List S
  ok : Sto → Prop
abbrev TID := Ev → Sto → (Src → Sto → Prop) → Prop
structure ItRep (K : PySem.W.Frag) (G : Hp) (π : List Addr) (J : It) (src : Src) : Prop where
  go : ∀ i x G1 π1 cs1 H1, Same G G1 → (∃ πn, π1 = π ++ πn) → At K G1 π1 cs1 H1 → src.ok cs1 → src.its[i]? = some x → J.go i H1 ∧ ∀ v H2, J.yld i H1 v H2 → ∃ G2, Ext G1 π1 H1 G2 π1 H2 ∧ At K G2 π1 cs1 H2 ∧ RepS K G2 π1 v x
  stop : ∀ i G1 π1 cs1 H1, Same G G1 → (∃ πn, π1 = π ++ πn) → At K G1 π1 cs1 H1 → src.ok cs1 → src.its.length ≤ i → J.stop i H1
def upI (K : PySem.W.Frag) (t : TID) : TI := fun σ H R => ∃ G π ρ cs Rd, At K G π cs H ∧ Sl K G π σ ρ ∧ t ρ cs Rd ∧ ∀ J src H' cs' G' π', Ext G π H G' π' H' → At K G' π' cs' H' → ItRep K G' π' J src → Rd src cs' → R J H'
theorem _root_.L2.PI.weak {tg e : Expr} {t t' : TI} (h : PI X tg e t) (hw : ∀ σ H R, t' σ H R → t σ H R) : PI X tg e t' := ⟨fun pins s σ H R I q => h.run pins s σ H R I (hw _ _ _ q)⟩
theorem _root_.L2.PI.or {tg e : Expr} {t t' : TI} (h : PI X tg e t) (h' : PI X tg e t') : PI X tg e (fun σ H R => t σ H R ∨ t' σ H R) := ⟨fun pins s σ H R I q => by
  rcases q with q | q
  · exact h.run pins s σ H R I q
  · exact h'.run pins s σ H R I q⟩
abbrev okT : Sto → Prop := fun _ => True
def itemsR : S → Sto → (Src → Sto → Prop) → Prop
  | .d (.list ds), cs1, R => R ⟨ds.map S.d, okT⟩ cs1
  | .d (.tuple ds), cs1, R => R ⟨ds.map S.d, okT⟩ cs1
  | .ref n, cs1, R => ∃ xs, getC cs1 n = some xs ∧ R ⟨xs, fun cs => getC cs n = some xs⟩ cs1
  | _, _, _ => False
def dItems (t : TD) : TID := fun ρ cs R => t ρ cs fun x cs1 => itemsR x cs1 R

structure LstRep (K : PySem.W.Frag) (G : Hp) (π : List Addr) (a : Addr) (its : List S) (ok : Sto → Prop) : Prop where
  at_ : ∀ G1 π1 cs1 H1, Same G G1 → (∃ πn, π1 = π ++ πn) → At K G1 π1 cs1 H1 → ok cs1 → ∃ vs, SqL K H1 a vs ∧ RepL K G1 π1 vs its
structure TupRep (K : PySem.W.Frag) (G : Hp) (π : List Addr) (a : Addr) (its : List S) (ok : Sto → Prop) : Prop where
  at_ : ∀ G1 π1 cs1 H1, Same G G1 → (∃ πn, π1 = π ++ πn) → At K G1 π1 cs1 H1 → ok cs1 → ∃ vs, SqT K H1 a vs ∧ RepL K G1 π1 vs its
theorem lrep_list {G : Hp} {π : List Addr} {v : V} {ds : List PyData} (r : RepS K G π v (.d (.list ds))) : ∃ a, v = .ref a ∧ LstRep K G π a (ds.map S.d) okT := by
  cases r with
  | d r => cases r with
    | lst h r => exact ⟨_, rfl, ⟨fun G1 π1 cs1 H1 e1 _ A _ => ⟨_, A.kn.seq (e1.seq h), repL_d (dpAll_mono e1 r)⟩⟩⟩
theorem lrep_tup {G : Hp} {π : List Addr} {v : V} {ds : List PyData} (r : RepS K G π v (.d (.tuple ds))) : ∃ a, v = .ref a ∧ TupRep K G π a (ds.map S.d) okT := by
  cases r with
  | d r => cases r with
    | tup h r => exact ⟨_, rfl, ⟨fun G1 π1 cs1 H1 e1 _ A _ => ⟨_, seqT_mono A.kn (seqT_mono e1 h), repL_d (dpAll_mono e1 r)⟩⟩⟩
theorem lrep_ref {G : Hp} {π : List Addr} {v : V} {n : Nat} {xs : List S} (r : RepS K G π v (.ref n)) : ∃ a, v = .ref a ∧ LstRep K G π a xs (fun cs => getC cs n = some xs) := by
  cases r with
  | ref h =>
    refine ⟨_, rfl, ⟨fun G1 π1 cs1 H1 e1 hp A ok => ?_⟩⟩
    obtain ⟨πn, rfl⟩ := hp
    obtain ⟨_, vs, e2, rl⟩ := A.st n _ xs (by rw [List.getElem?_append_left (List.getElem?_eq_some_iff.mp h).1]; exact h) (getC_eq ok)
    exact ⟨vs, .of e2, rl⟩
theorem itr_list {G : Hp} {π : List Addr} {a : Addr} {its : List S} {ok : Sto → Prop} (L : LstRep K G π a its ok) : ItRep K G π (Itl K a) ⟨its, ok⟩ where
  go := fun i x G1 π1 cs1 H1 e1 hp A o hx => by
    obtain ⟨vs, h, r⟩ := L.at_ G1 π1 cs1 H1 e1 hp A o
    obtain ⟨v, hv, rv⟩ := r.get hx
    refine ⟨⟨vs, v, h, hv⟩, fun u H2 y => ?_⟩
    obtain ⟨rfl, y⟩ := y
    have e := y vs h
    rw [hv] at e; cases e
    exact ⟨G1, .refl, A, rv⟩
  stop := fun i G1 π1 cs1 H1 e1 hp A o hl => by
    obtain ⟨vs, h, r⟩ := L.at_ G1 π1 cs1 H1 e1 hp A o
    exact ⟨vs, h, by rw [r.len]; exact hl⟩
theorem itr_tup {G : Hp} {π : List Addr} {a : Addr} {its : List S} {ok : Sto → Prop} (L : TupRep K G π a its ok) : ItRep K G π (Itt K a) ⟨its, ok⟩ where
  go := fun i x G1 π1 cs1 H1 e1 hp A o hx => by
    obtain ⟨vs, h, r⟩ := L.at_ G1 π1 cs1 H1 e1 hp A o
    obtain ⟨v, hv, rv⟩ := r.get hx
    refine ⟨⟨vs, v, h, hv⟩, fun u H2 y => ?_⟩
    obtain ⟨rfl, y⟩ := y
    have e := y vs h
    rw [hv] at e; cases e
    exact ⟨G1, .refl, A, rv⟩
  stop := fun i G1 π1 cs1 H1 e1 hp A o hl => by
    obtain ⟨vs, h, r⟩ := L.at_ G1 π1 cs1 H1 e1 hp A o
    exact ⟨vs, h, by rw [r.len]; exact hl⟩
def rgS (lo : Int) (n : Nat) : List S := (List.range n).map fun k => si (lo + (k : Nat))
theorem itr_range {G : Hp} {π : List Addr} {lo : Int} {n : Nat} : ItRep K G π (Itr lo n) ⟨rgS lo n, okT⟩ where
  go := fun i x G1 π1 cs1 H1 e1 hp A o hx => by
    unfold rgS at hx
    rw [List.getElem?_map] at hx
    have hi : i < n := by
      by_cases h : i < n
      · exact h
      · rw [List.getElem?_eq_none (by simp; omega)] at hx; cases hx
    rw [List.getElem?_range hi] at hx
    cases hx
    refine ⟨hi, fun u H2 y => ?_⟩
    obtain ⟨rfl, rfl⟩ := y
    exact ⟨G1, .refl, A, .d (.int _)⟩
  stop := fun i G1 π1 cs1 H1 e1 hp A o hl => by
    unfold rgS at hl
    show n ≤ i
    simpa using hl
def zipD (ds es : List PyData) : List S := (ds.zip es).map fun p => .d (.tuple [p.1, p.2])
theorem zip_get {ds es : List PyData} {i : Nat} {x : S} (h : (zipD ds es)[i]? = some x) : ∃ d e, ds[i]? = some d ∧ es[i]? = some e ∧ x = .d (.tuple [d, e]) := by
  unfold zipD at h
  rw [List.getElem?_map] at h
  cases q : (ds.zip es)[i]? with
  | none => rw [q] at h; cases h
  | some p =>
    rw [q] at h
    cases h
    obtain ⟨h1, h2⟩ := List.getElem?_zip_eq_some.mp q
    exact ⟨p.1, p.2, h1, h2, rfl⟩
theorem pair_new {G H : Hp} {π : List Addr} {cs : Sto} {v w : V} {d e : PyData} (A : At K G π cs H) (r : RepS K G π v (.d d)) (r' : RepS K G π w (.d e)) {T : Addr} (hT : H T = none) :
    ∃ G2, Ext G π H G2 π (upd H T (.tup [v, w])) ∧ At K G2 π cs (upd H T (.tup [v, w])) ∧ RepS K G2 π (.ref T) (.d (.tuple [d, e])) := by
  cases r with
  | d r => cases r' with
    | d r' =>
      obtain ⟨G2, A2, E2, r2⟩ := new_tup A (.cons r (.cons r' .nil)) hT
      exact ⟨G2, E2, A2, r2⟩
theorem itr_zipL {G : Hp} {π : List Addr} {a b : Addr} {ds es : List PyData} {ok ok' : Sto → Prop} (L : LstRep K G π a (ds.map S.d) ok) (L' : LstRep K G π b (es.map S.d) ok') : ItRep K G π (Itz K a b) ⟨zipD ds es, fun cs => ok cs ∧ ok' cs⟩ where
  go := fun i x G1 π1 cs1 H1 e1 hp A o hx => by
    obtain ⟨vs, h, r⟩ := L.at_ G1 π1 cs1 H1 e1 hp A o.1
    obtain ⟨ws, h', r'⟩ := L'.at_ G1 π1 cs1 H1 e1 hp A o.2
    obtain ⟨d, e, hd, he, rfl⟩ := zip_get hx
    obtain ⟨v, hv, rv⟩ := r.get (by rw [List.getElem?_map, hd]; rfl)
    obtain ⟨w, hw, rw'⟩ := r'.get (by rw [List.getElem?_map, he]; rfl)
    refine ⟨⟨vs, ws, v, w, h, h', hv, hw⟩, fun u H2 y => ?_⟩
    obtain ⟨T, x, z, rfl, hT, rfl, y1, y2⟩ := y
    have q1 := y1 vs h
    have q2 := y2 ws h'
    rw [hv] at q1; cases q1
    rw [hw] at q2; cases q2
    exact pair_new A rv rw' hT
  stop := fun i G1 π1 cs1 H1 e1 hp A o hl => by
    obtain ⟨vs, h, r⟩ := L.at_ G1 π1 cs1 H1 e1 hp A o.1
    obtain ⟨ws, h', r'⟩ := L'.at_ G1 π1 cs1 H1 e1 hp A o.2
    have l1 := r.len
    have l2 := r'.len
    unfold zipD at hl
    simp only [List.length_map, List.length_zip] at hl l1 l2
    exact ⟨vs, ws, h, h', by omega⟩
theorem itr_zipT {G : Hp} {π : List Addr} {a b : Addr} {ds es : List PyData} {ok ok' : Sto → Prop} (L : TupRep K G π a (ds.map S.d) ok) (L' : TupRep K G π b (es.map S.d) ok') : ItRep K G π (ItzT K a b) ⟨zipD ds es, fun cs => ok cs ∧ ok' cs⟩ where
  go := fun i x G1 π1 cs1 H1 e1 hp A o hx => by
    obtain ⟨vs, h, r⟩ := L.at_ G1 π1 cs1 H1 e1 hp A o.1
    obtain ⟨ws, h', r'⟩ := L'.at_ G1 π1 cs1 H1 e1 hp A o.2
    obtain ⟨d, e, hd, he, rfl⟩ := zip_get hx
    obtain ⟨v, hv, rv⟩ := r.get (by rw [List.getElem?_map, hd]; rfl)
    obtain ⟨w, hw, rw'⟩ := r'.get (by rw [List.getElem?_map, he]; rfl)
    refine ⟨⟨vs, ws, v, w, h, h', hv, hw⟩, fun u H2 y => ?_⟩
    obtain ⟨T, x, z, rfl, hT, rfl, y1, y2⟩ := y
    have q1 := y1 vs h
    have q2 := y2 ws h'
    rw [hv] at q1; cases q1
    rw [hw] at q2; cases q2
    exact pair_new A rv rw' hT
  stop := fun i G1 π1 cs1 H1 e1 hp A o hl => by
    obtain ⟨vs, h, r⟩ := L.at_ G1 π1 cs1 H1 e1 hp A o.1
    obtain ⟨ws, h', r'⟩ := L'.at_ G1 π1 cs1 H1 e1 hp A o.2
    have l1 := r.len
    have l2 := r'.len
    unfold zipD at hl
    simp only [List.length_map, List.length_zip] at hl l1 l2
    exact ⟨vs, ws, h, h', by omega⟩
def enuD (ds : List PyData) : List S := ds.zipIdx.map fun p => .d (.tuple [.int (p.2 : Nat), p.1])
theorem itr_enum {G : Hp} {π : List Addr} {a : Addr} {ds : List PyData} {ok : Sto → Prop} (L : LstRep K G π a (ds.map S.d) ok) : ItRep K G π (Ite K a) ⟨enuD ds, ok⟩ where
  go := fun i x G1 π1 cs1 H1 e1 hp A o hx => by
    obtain ⟨vs, h, r⟩ := L.at_ G1 π1 cs1 H1 e1 hp A o
    unfold enuD at hx
    rw [List.getElem?_map, List.getElem?_zipIdx] at hx
    cases q : ds[i]? with
    | none => rw [q] at hx; cases hx
    | some d =>
      rw [q] at hx
      cases hx
      obtain ⟨v, hv, rv⟩ := r.get (by rw [List.getElem?_map, q]; rfl)
      refine ⟨⟨vs, v, h, hv⟩, fun u H2 y => ?_⟩
      obtain ⟨T, x, rfl, hT, rfl, y1⟩ := y
      have q1 := y1 vs h
      rw [hv] at q1; cases q1
      have := pair_new A (d := .int ((0 + i : Nat) : Int)) (.d (.int _)) rv hT
      rw [Nat.zero_add] at this ⊢
      exact this
  stop := fun i G1 π1 cs1 H1 e1 hp A o hl => by
    obtain ⟨vs, h, r⟩ := L.at_ G1 π1 cs1 H1 e1 hp A o
    have l1 := r.len
    unfold enuD at hl
    simp only [List.length_map, List.length_zipIdx] at hl l1
    exact ⟨vs, h, by omega⟩
open PySem.Spec PyProof.Rows in
/-- what an expression hands: a list or a tuple, told behind its evaluation -/
theorem pi_seq {l : Expr} {tl : TE} (hl : PE X l tl) : PI X tg l (fun σ H R => tl σ H fun x H1 => ∃ a, x = .ref a ∧ (((∃ xs, SqL X.K H1 a xs) ∧ R (Itl X.K a) H1) ∨ ((∃ xs, SqT X.K H1 a xs) ∧ R (Itt X.K a) H1))) := by
  refine ⟨fun pins s σ H R I h => ?_⟩
  refine thn (hl.run pins s σ H _ I h) fun v s1 ⟨x, H1, I1, r1, q1⟩ => ?_
  obtain ⟨a, e, q⟩ := q1
  subst e
  cases r1
  rcases q with ⟨⟨xs, hq⟩, q⟩ | ⟨⟨xs, hq⟩, q⟩
  · obtain ⟨its, rv, p, hz⟩ := I1.list hq
    refine wpAny_pyIter_list p.isList ?_
    refine ⟨s1.heap.objs.size, [s1.heap.objs.size], _, _, H1, rfl, I1.kept (t' := s1.toks) fun b o e => Heap.get?_push_of_some _ e, turn_list a _, ⟨_, Heap.get?_push_size _ rfl, rfl, rfl⟩, fun b hb => ?_, q⟩
    have e : b = s1.heap.objs.size := by simpa using hb
    subst e
    exact I1.fpOk (Nat.le_refl _) (I1.hok.fresh (Nat.le_refl _))
  · obtain ⟨its, rv, p, hz⟩ := I1.tuple hq
    refine wpAny_pyIter_tuple (show s1.heap.IsTuple a its.toArray from p) ?_
    refine ⟨s1.heap.objs.size, [s1.heap.objs.size], _, _, H1, rfl, I1.kept (t' := s1.toks) fun b o e => Heap.get?_push_of_some _ e, turn_tuple a _, ⟨_, Heap.get?_push_size _ rfl, rfl, rfl⟩, fun b hb => ?_, q⟩
    have e : b = s1.heap.objs.size := by simpa using hb
    subst e
    exact I1.fpOk (Nat.le_refl _) (I1.hok.fresh (Nat.le_refl _))
theorem ppr {π : List Addr} : ∃ πn, π = π ++ πn := ⟨[], by simp⟩
theorem ItRep.ok_mono {G : Hp} {π : List Addr} {J : It} {its : List S} {ok ok' : Sto → Prop} (r : ItRep K G π J ⟨its, ok'⟩) (h : ∀ cs, ok cs → ok' cs) : ItRep K G π J ⟨its, ok⟩ :=
  ⟨fun i x G1 π1 cs1 H1 e1 hp A o => r.go i x G1 π1 cs1 H1 e1 hp A (h _ o), fun i G1 π1 cs1 H1 e1 hp A o => r.stop i G1 π1 cs1 H1 e1 hp A (h _ o)⟩
theorem ei_items (he : PE X e (upE X.K te)) : PI X tg e (upI X.K (dItems te)) := by
  refine (pi_seq he).weak ?_
  rintro σ H R0 ⟨G, π, ρ, cs, R, A, s, q, k⟩
  refine ⟨G, π, ρ, cs, _, A, s, q, fun v H1 x cs1 G1 π1 E1 A1 r1 q1 => ?_⟩
  cases x with
  | ref n =>
    obtain ⟨xs, e1, q1⟩ := q1
    obtain ⟨a, rfl, L⟩ := lrep_ref (xs := xs) r1
    obtain ⟨vs, h, _⟩ := L.at_ G1 π1 cs1 H1 (Same.refl _) ppr A1 e1
    exact ⟨a, rfl, .inl ⟨⟨vs, h⟩, k _ _ _ _ _ _ E1 A1 (itr_list L) q1⟩⟩
  | d x =>
    cases x <;> try (exact q1.elim; done)
    · obtain ⟨a, rfl, L⟩ := lrep_list r1
      obtain ⟨vs, h, _⟩ := L.at_ G1 π1 cs1 H1 (Same.refl _) ppr A1 trivial
      exact ⟨a, rfl, .inl ⟨⟨vs, h⟩, k _ _ _ _ _ _ E1 A1 (itr_list L) q1⟩⟩
    · obtain ⟨a, rfl, L⟩ := lrep_tup r1
      obtain ⟨vs, h, _⟩ := L.at_ G1 π1 cs1 H1 (Same.refl _) ppr A1 trivial
      exact ⟨a, rfl, .inr ⟨⟨vs, h⟩, k _ _ _ _ _ _ E1 A1 (itr_tup L) q1⟩⟩
def dRg1 (t : TAD) : TID := fun ρ cs R => t ρ cs fun xs cs1 => ∃ j : Int, xs = [si j] ∧ -(2 ^ 62) ≤ j ∧ j < 2 ^ 62 ∧ R ⟨rgS 0 j.toNat, okT⟩ cs1
def dRg2 (t : TAD) : TID := fun ρ cs R => t ρ cs fun xs cs1 => ∃ i j : Int, xs = [si i, si j] ∧ (-(2 ^ 62) ≤ i ∧ i < 2 ^ 62 ∧ -(2 ^ 62) ≤ j ∧ j < 2 ^ 62) ∧ R ⟨rgS i (j - i).toNat, okT⟩ cs1
theorem ei_rg1 (hg : Gl X "range") (hm : X.mg "range" = none) (ha : PA X [a] (upA X.K t)) (hs : starEach [a] X.env = [(false, eval a X.env)] := by rfl) : PI X tg (.Call (.Name "range" p) [a] [] pos) (upI X.K (dRg1 t)) := by
  refine (pi_range1 hg hm ha hs).weak ?_
  rintro σ H R0 ⟨G, π, ρ, cs, R, A, s, q, k⟩
  refine ⟨G, π, ρ, cs, _, A, s, q, fun vs H1 xs cs1 G1 π1 E1 A1 r1 q1 => ?_⟩
  obtain ⟨j, rfl, h1, h2, q1⟩ := q1
  obtain ⟨v, rfl, r⟩ := repL_one r1
  rw [rep_int r]
  exact ⟨j, rfl, h1, h2, k _ _ _ _ _ _ E1 A1 itr_range q1⟩
theorem ei_rg2 (hg : Gl X "range") (hm : X.mg "range" = none) (ha : PA X [a, b] (upA X.K t)) (hs : starEach [a, b] X.env = [(false, eval a X.env), (false, eval b X.env)] := by rfl) (hs2 : starEach [b] X.env = [(false, eval b X.env)] := by rfl) :
    PI X tg (.Call (.Name "range" p) [a, b] [] pos) (upI X.K (dRg2 t)) := by
  refine (pi_range2 hg hm ha hs hs2).weak ?_
  rintro σ H R0 ⟨G, π, ρ, cs, R, A, s, q, k⟩
  refine ⟨G, π, ρ, cs, _, A, s, q, fun vs H1 xs cs1 G1 π1 E1 A1 r1 q1 => ?_⟩
  obtain ⟨i, j, rfl, h, q1⟩ := q1
  obtain ⟨v, w, rfl, r, r'⟩ := repL_two r1
  rw [rep_int r, rep_int r']
  exact ⟨i, j, rfl, h, k _ _ _ _ _ _ E1 A1 itr_range q1⟩
/-- zip(x, y) -/
def dZipR : S → S → Sto → (Src → Sto → Prop) → Prop
  | .d (.tuple ds), .d (.tuple es), cs, R => R ⟨zipD ds es, okT⟩ cs
  | .d (.list ds), .d (.list es), cs, R => R ⟨zipD ds es, okT⟩ cs
  | .ref n, .d (.list es), cs, R => ∃ ds, getC cs n = some (ds.map S.d) ∧ R ⟨zipD ds es, fun c => getC c n = some (ds.map S.d) ∧ True⟩ cs
  | .d (.list ds), .ref m, cs, R => ∃ es, getC cs m = some (es.map S.d) ∧ R ⟨zipD ds es, fun c => True ∧ getC c m = some (es.map S.d)⟩ cs
  | .ref n, .ref m, cs, R => ∃ ds es, getC cs n = some (ds.map S.d) ∧ getC cs m = some (es.map S.d) ∧ R ⟨zipD ds es, fun c => getC c n = some (ds.map S.d) ∧ getC c m = some (es.map S.d)⟩ cs
  | _, _, _, _ => False
def dZip (t : TAD) : TID := fun ρ cs R => t ρ cs fun xs cs1 => match xs with
  | [x, y] => dZipR x y cs1 R
  | _ => False
theorem ei_zip {elts : List Expr} {kk : Nat} {tpos : Pos} (hg : Gl X "zip") (hm : X.mg "zip" = none) (ha : PA X [a, b] (upA X.K t))
    (hs : starEach [a, b] X.env = (false, eval a X.env) :: starEach [b] X.env := by rfl) (hpl : (backTo pos (starEach [b] X.env)).any (·.1) = false := by rfl) :
    PI X (.Tuple elts kk tpos) (.Call (.Name "zip" p) [a, b] [] pos) (upI X.K (dZip t)) := by
  refine (pi_zipA hg hm ha hs hpl).weak ?_
  rintro σ H R0 ⟨G, π, ρ, cs, R, A, s, q, k⟩
  refine ⟨G, π, ρ, cs, _, A, s, q, fun vs H1 xs cs1 G1 π1 E1 A1 r1 q1 => ?_⟩
  split at q1
  · rename_i x y
    obtain ⟨v, w, rfl, r, r'⟩ := repL_two r1
    unfold dZipR at q1
    split at q1
    · obtain ⟨a, rfl, L⟩ := lrep_tup r
      obtain ⟨b, rfl, L'⟩ := lrep_tup r'
      obtain ⟨xs, h, _⟩ := L.at_ G1 π1 cs1 H1 (Same.refl _) ppr A1 trivial
      obtain ⟨ys, h', _⟩ := L'.at_ G1 π1 cs1 H1 (Same.refl _) ppr A1 trivial
      exact ⟨a, b, xs, ys, rfl, .inr ⟨h, h', k _ _ _ _ _ _ E1 A1 ((itr_zipT L L').ok_mono fun _ _ => ⟨trivial, trivial⟩) q1⟩⟩
    · obtain ⟨a, rfl, L⟩ := lrep_list r
      obtain ⟨b, rfl, L'⟩ := lrep_list r'
      obtain ⟨xs, h, _⟩ := L.at_ G1 π1 cs1 H1 (Same.refl _) ppr A1 trivial
      obtain ⟨ys, h', _⟩ := L'.at_ G1 π1 cs1 H1 (Same.refl _) ppr A1 trivial
      exact ⟨a, b, xs, ys, rfl, .inl ⟨h, h', k _ _ _ _ _ _ E1 A1 ((itr_zipL L L').ok_mono fun _ _ => ⟨trivial, trivial⟩) q1⟩⟩
    · obtain ⟨ds, e, q1⟩ := q1
      obtain ⟨a, rfl, L⟩ := lrep_ref (xs := ds.map S.d) r
      obtain ⟨b, rfl, L'⟩ := lrep_list r'
      obtain ⟨xs, h, _⟩ := L.at_ G1 π1 cs1 H1 (Same.refl _) ppr A1 e
      obtain ⟨ys, h', _⟩ := L'.at_ G1 π1 cs1 H1 (Same.refl _) ppr A1 trivial
      exact ⟨a, b, xs, ys, rfl, .inl ⟨h, h', k _ _ _ _ _ _ E1 A1 (itr_zipL L L') q1⟩⟩
    · obtain ⟨es, e, q1⟩ := q1
      obtain ⟨a, rfl, L⟩ := lrep_list r
      obtain ⟨b, rfl, L'⟩ := lrep_ref (xs := es.map S.d) r'
      obtain ⟨xs, h, _⟩ := L.at_ G1 π1 cs1 H1 (Same.refl _) ppr A1 trivial
      obtain ⟨ys, h', _⟩ := L'.at_ G1 π1 cs1 H1 (Same.refl _) ppr A1 e
      exact ⟨a, b, xs, ys, rfl, .inl ⟨h, h', k _ _ _ _ _ _ E1 A1 (itr_zipL L L') q1⟩⟩
    · obtain ⟨ds, es, e, e', q1⟩ := q1
      obtain ⟨a, rfl, L⟩ := lrep_ref (xs := ds.map S.d) r
      obtain ⟨b, rfl, L'⟩ := lrep_ref (xs := es.map S.d) r'
      obtain ⟨xs, h, _⟩ := L.at_ G1 π1 cs1 H1 (Same.refl _) ppr A1 e
      obtain ⟨ys, h', _⟩ := L'.at_ G1 π1 cs1 H1 (Same.refl _) ppr A1 e'
      exact ⟨a, b, xs, ys, rfl, .inl ⟨h, h', k _ _ _ _ _ _ E1 A1 (itr_zipL L L') q1⟩⟩
    · exact q1.elim
  · exact q1.elim
/-- enumerate(x), x a list -/
def dEnum (t : TAD) : TID := fun ρ cs R => t ρ cs fun xs cs1 => match xs with
  | [.d (.list ds)] => R ⟨enuD ds, okT⟩ cs1
  | [.ref n] => ∃ ds, getC cs1 n = some (ds.map S.d) ∧ R ⟨enuD ds, fun c => getC c n = some (ds.map S.d)⟩ cs1
  | _ => False
theorem ei_enum {elts : List Expr} {kk : Nat} {tpos : Pos} (hg : Gl X "enumerate") (hm : X.mg "enumerate" = none) (ha : PA X [a] (upA X.K t)) (hs : starEach [a] X.env = [(false, eval a X.env)] := by rfl) :
    PI X (.Tuple elts kk tpos) (.Call (.Name "enumerate" p) [a] [] pos) (upI X.K (dEnum t)) := by
  refine (pi_enum hg hm ha hs).weak ?_
  rintro σ H R0 ⟨G, π, ρ, cs, R, A, s, q, k⟩
  refine ⟨G, π, ρ, cs, _, A, s, q, fun vs H1 xs cs1 G1 π1 E1 A1 r1 q1 => ?_⟩
  split at q1
  · obtain ⟨v, rfl, r⟩ := repL_one r1
    obtain ⟨a, rfl, L⟩ := lrep_list r
    obtain ⟨xs, h, _⟩ := L.at_ G1 π1 cs1 H1 (Same.refl _) ppr A1 trivial
    exact ⟨a, xs, rfl, h, k _ _ _ _ _ _ E1 A1 (itr_enum L) q1⟩
  · obtain ⟨v, rfl, r⟩ := repL_one r1
    obtain ⟨ds, e, q1⟩ := q1
    obtain ⟨a, rfl, L⟩ := lrep_ref (xs := ds.map S.d) r
    obtain ⟨xs, h, _⟩ := L.at_ G1 π1 cs1 H1 (Same.refl _) ppr A1 e
    exact ⟨a, xs, rfl, h, k _ _ _ _ _ _ E1 A1 (itr_enum L) q1⟩
  · exact q1.elim
end
end FL

set_option Elab.async false
set_option linter.all false
set_option maxRecDepth 100000
set_option maxHeartbeats 1000000
namespace FL
open PySem L2 RZ PyProof.Rows

section
variable {X : Cx} {K : PySem.W.Frag} {a b c e tg : Expr} {es : List Expr} {ta tb tc te : TD} {t : TAD} {tt : TTD} {pos p : Pos} {x : Str} {st : Stmt} {rest : List Stmt} {ts us : TSD}

/-! ### blocks and small statements -/
def dNext : TSD := fun d ρ cs => d.nx ρ cs
def dSeq (t u : TSD) : TSD := fun d ρ cs => t { d with nx := u d } ρ cs
theorem ess_nil : PSs X [] (upS X.K dNext) := pss_nil.weak (by
  rintro D σ H ⟨G, π, ρ, cs, d, A, s, q, C⟩
  exact C.nx _ _ _ _ _ _ .refl A s q)
theorem up_seq : ∀ D σ H, upS K (dSeq ts us) D σ H → tSeq (upS K ts) (upS K us) D σ H := by
  rintro D σ H ⟨G, π, ρ, cs, d, A, s, q, C⟩
  exact ⟨G, π, ρ, cs, _, A, s, q, ⟨fun σ' H' ρ' cs' G' π' E A' s' q' => ⟨G', π', ρ', cs', d, A', s', q', C.step E⟩, C.bk, C.ct, C.rt⟩⟩
theorem ess_cons (h1 : PS X st (upS X.K ts)) (h2 : PSs X rest (upS X.K us)) : PSs X (st :: rest) (upS X.K (dSeq ts us)) := (pss_cons h1 h2).weak up_seq
theorem ess_one (h1 : PS X st (upS X.K ts)) : PSs X [st] (upS X.K ts) := pss_one h1
theorem es_pass : PS X (.Pass pos) (upS X.K dNext) := ps_pass.weak (by
  rintro D σ H ⟨G, π, ρ, cs, d, A, s, q, C⟩
  exact C.nx _ _ _ _ _ _ .refl A s q)
def dBreak : TSD := fun d ρ cs => d.bk ρ cs
def dCont : TSD := fun d ρ cs => d.ct ρ cs
theorem es_break : PS X (.Break pos) (upS X.K dBreak) := ps_break.weak (by
  rintro D σ H ⟨G, π, ρ, cs, d, A, s, q, C⟩
  exact C.bk _ _ _ _ _ _ .refl A s q)
theorem es_continue : PS X (.Continue pos) (upS X.K dCont) := ps_continue.weak (by
  rintro D σ H ⟨G, π, ρ, cs, d, A, s, q, C⟩
  exact C.ct _ _ _ _ _ _ .refl A s q)
def dDrop (te : TD) : TSD := fun d ρ cs => te ρ cs fun _ cs1 => d.nx ρ cs1
theorem es_expr (he : PE X e (upE X.K te)) (hs : swapsWith e none pos.line X.env = pure false := by rfl) : PS X (.Expr e pos) (upS X.K (dDrop te)) := (ps_expr he hs).weak (by
  rintro D σ H ⟨G, π, ρ, cs, d, A, s, q, C⟩
  exact ⟨G, π, ρ, cs, _, A, s, q, fun v H' x cs' G' π' E A' r q' => C.nx _ _ _ _ _ _ E A' (s.ext E) q'⟩)
def dRet (te : TD) : TSD := fun d ρ cs => te ρ cs d.rt
theorem es_ret (he : PE X e (upE X.K te)) : PS X (.Return (some e) pos) (upS X.K (dRet te)) := (ps_ret he).weak (by
  rintro D σ H ⟨G, π, ρ, cs, d, A, s, q, C⟩
  exact ⟨G, π, ρ, cs, _, A, s, q, C.rt⟩)
def dRetN : TSD := fun d _ cs => d.rt (.d .none) cs
theorem es_retN : PS X (.Return none pos) (upS X.K dRetN) := ps_retN.weak (by
  rintro D σ H ⟨G, π, ρ, cs, d, A, s, q, C⟩
  exact C.rt _ _ _ _ _ _ .refl A (.d .non) q)
def dIfS (c : TTD) (t u : TSD) : TSD := fun d ρ cs => c ρ cs fun b cs1 => (b = true → t d ρ cs1) ∧ (b = false → u d ρ cs1)
theorem es_if {aa bb : List Stmt} (hc : PT X c (upT X.K tt)) (ha : PSs X aa (upS X.K ts)) (hb : PSs X bb (upS X.K us)) : PS X (.If c aa bb pos) (upS X.K (dIfS tt ts us)) := (ps_if hc ha hb).weak (by
  rintro D σ H ⟨G, π, ρ, cs, d, A, s, q, C⟩
  refine ⟨G, π, ρ, cs, _, A, s, q, fun b H1 cs1 G1 π1 E1 A1 q1 => ?_⟩
  cases b with
  | true =>
    refine iteT ?_
    exact ⟨G1, π1, ρ, cs1, d, A1, s.ext E1, q1.1 rfl, C.step E1⟩
  | false =>
    refine iteF ?_
    exact ⟨G1, π1, ρ, cs1, d, A1, s.ext E1, q1.2 rfl, C.step E1⟩)
def dNever : TSD := fun _ _ _ => False
theorem es_never : PS X st (upS X.K dNever) := ps_never.weak (by
  rintro D σ H ⟨G, π, ρ, cs, d, A, s, q, C⟩
  exact q.elim)
def dAsg (te : TD) (g : TGD) : TSD := fun d ρ cs => te ρ cs fun x cs1 => g x ρ cs1 d.nx
theorem up_asg {g : TGD} {is : List Nat} {te0 : TE} (h : ∀ σ H Q, upE K te σ H Q → te0 σ H Q) : ∀ D σ H, upS K (dAsg te g) D σ H → tAsg te0 (upG K is g) D σ H := by
  rintro D σ H ⟨G, π, ρ, cs, d, A, s, q, C⟩
  refine h σ H _ ⟨G, π, ρ, cs, _, A, s, q, fun v H1 x cs1 G1 π1 E1 A1 r1 q1 => ?_⟩
  exact ⟨G1, π1, ρ, cs1, x, _, A1, s.ext E1, r1, q1, fun σ2 H2 ρ2 cs2 G2 π2 E2 A2 s2 _ q2 => C.nx _ _ _ _ _ _ (E1.trans E2) A2 s2 q2⟩
theorem es_asg {g : TGD} {is : List Nat} (he : PE X e (upE X.K te)) (hg : PG X tg (upG X.K is g)) (hs : swapsWithSole [tg] e pos.line X.env = pure false := by rfl) (hw : swappedStores [tg] e X.env = pure none := by rfl)
    (h1 : (assignEach [tg] X.env).map (·.2) = [assign tg X.env] := by rfl) : PS X (.Assign [tg] e pos) (upS X.K (dAsg te g)) := (ps_asg he hg hs hw h1).weak (up_asg fun _ _ _ q => q)
theorem es_set (i : Nat) {x : Str} {pos' : Pos} (hN : X.N.Nodup) (hi : X.N[i]? = some x) (hx : Loc X.env.scope x) (he : PE X e (upE X.K te)) (hs : swapsWith e (some (.Name x pos')) pos.line X.env = pure false := by rfl) (hf : X.fn x = true ∨ X.env.scope.names.lookup x = some .local := by first | exact .inl rfl | exact .inr rfl | assumption) :
    PS X (.Assign [.Name x pos'] e pos) (upS X.K (dAsg te (dgName i))) := (ps_set hN hi hx he hs hf).weak (by
  rintro D σ H ⟨G, π, ρ, cs, d, A, s, q, C⟩
  refine ⟨G, π, ρ, cs, _, A, s, q, fun v H1 x cs1 G1 π1 E1 A1 r1 q1 => ?_⟩
  exact C.nx _ _ _ _ _ _ E1 A1 ((s.ext E1).set i r1) q1)
def dPar (i j : Nat) (t : TAD) : TSD := fun d ρ cs => t ρ cs fun xs cs1 => match xs with
  | [x, y] => d.nx ((ρ.set i (some x)).set j (some y)) cs1
  | _ => False
theorem es_par (i j : Nat) {x y : Str} {px py pt : Pos} {kt k2 pt2} (hc : X.calm = true) (hN : X.N.Nodup) (hi : X.N[i]? = some x) (hj : X.N[j]? = some y) (hij : i ≠ j)
    (hx : X.env.scope.names.lookup x = some .local) (hy : X.env.scope.names.lookup y = some .local) (ha : PA X [a, b] (upA X.K t))
    (hw : swappedStores [.Tuple [.Name x px, .Name y py] kt pt] (.Tuple [a, b] k2 pt2) X.env = pure (some [x, y]))
    (hs : swapsWithSole [.Tuple [.Name x px, .Name y py] kt pt] (.Tuple [a, b] k2 pt2) pos.line X.env = pure false := by rfl) :
    PS X (.Assign [.Tuple [.Name x px, .Name y py] kt pt] (.Tuple [a, b] k2 pt2) pos) (upS X.K (dPar i j t)) := (ps_par hc hN hi hj hij hx hy ha hw hs).weak (by
  rintro D σ H ⟨G, π, ρ, cs, d, A, s, q, C⟩
  refine ⟨G, π, ρ, cs, _, A, s, q, fun vs H1 xs cs1 G1 π1 E1 A1 r1 q1 => ?_⟩
  split at q1
  · obtain ⟨v1, v2, rfl, r, r'⟩ := repL_two r1
    exact ⟨v1, v2, rfl, C.nx _ _ _ _ _ _ E1 A1 (((s.ext E1).set i r).set j r') q1⟩
  · exact q1.elim)
/-- x op= e of whole numbers -/
def dAug (i : Nat) (f : Int → Int → Int) (te : TD) : TSD := fun d ρ cs => ∃ a, getS ρ i = some (si a) ∧ te ρ cs fun y cs1 => ∃ b, y = si b ∧ d.nx (ρ.set i (some (si (f a b)))) cs1
theorem es_aug (i : Nat) {x : Str} {op : Operator} {f : Int → Int → Int} {pos' : Pos} (hN : X.N.Nodup) (hi : X.N[i]? = some x) (hx : Loc X.env.scope x) (he : PE X e (upE X.K te)) (ho : PIp X op (ipI f)) (hf : X.fn x = true ∨ X.env.scope.names.lookup x = some .local := by first | exact .inl rfl | exact .inr rfl | assumption) :
    PS X (.AugAssign (.Name x pos') op e pos) (upS X.K (dAug i f te)) := (ps_aug hN hi hx he ho hf).weak (by
  rintro D σ H ⟨G, π, ρ, cs, d, A, s, ⟨a, e1, q⟩, C⟩
  obtain ⟨v, ev, rv⟩ := s.at_ i _ (getS_eq e1)
  refine ⟨v, ev, G, π, ρ, cs, _, A, s, q, fun w H1 y cs1 G1 π1 E1 A1 r1 q1 => ?_⟩
  obtain ⟨b, rfl, q1⟩ := q1
  rw [rep_int rv, rep_int r1]
  exact ⟨a, b, rfl, rfl, C.nx _ _ _ _ _ _ E1 A1 ((s.ext E1).set i (.d (.int _))) q1⟩)
/-- xs.append(e), xs a cell -/
def dApp (to te : TD) : TD := fun ρ cs R => to ρ cs fun o cs1 => match o with
  | .ref n => (∃ xs, getC cs1 n = some xs) ∧ te ρ cs1 fun y cs2 => ∃ xs, getC cs2 n = some xs ∧ xs.length < sizeLine ∧ R (.d .none) (cs2.set n (some (xs ++ [y])))
  | _ => False
theorem ee_app {o : Expr} {to : TD} {apos cpos : Pos} (ho : PE X o (upE X.K to)) (he : PE X e (upE X.K te))
    (h1 : starEach [e] X.env = (false, eval e X.env) :: starEach [] X.env := by rfl)
    (hbase : attributeBase o "append" X.env (eval o X.env) = eval o X.env := by rfl)
    (hfew : ((backTo cpos (starEach [e] X.env)).all (fun x => !x.1) && (backToKw cpos (keywordEach [] X.env)).all (fun x => x.1.isSome)
      && decide (([e] : List Expr).length + ([] : List Keyword).length + (if ([] : List Keyword).isEmpty then 0 else 1) < 30)) = true := by rfl)
    (hline : (apos.endLine == cpos.line) = true := by rfl) (hplain : (backTo cpos (starEach ([] : List Expr) X.env)).any (·.1) = false := by rfl) :
    PE X (.Call (.Attribute o "append" apos) [e] [] cpos) (upE X.K (dApp to te)) := by
  refine (pe_bm PySem.F.plainAttrs_list PySem.F.slot_list_append PySem.F.type_list_append mt_append ho (pa_cons he pa_nil h1) hbase hfew hline h1 hplain).weak ?_
  rintro σ H Q ⟨G, π, ρ, cs, R, A, s, q, k⟩
  refine ⟨G, π, ρ, cs, _, A, s, q, fun v1 H1 x cs1 G1 π1 E1 A1 r1 q1 => ?_⟩
  cases x with
  | d _ => exact q1.elim
  | ref n =>
    obtain ⟨⟨xs0, e0⟩, q1⟩ := q1
    obtain ⟨p, vs0, rfl, h3, h4, _⟩ := rep_ref A1 r1 e0
    refine ⟨.inl ⟨rfl, _, .of h4⟩, G1, π1, ρ, cs1, _, A1, s.ext E1, q1, fun v2 H2 y cs2 G2 π2 E2 A2 r2 q2 => ?_⟩
    obtain ⟨xs, e1, hz, q2⟩ := q2
    obtain ⟨p', vs, e, h5, h6, h7⟩ := rep_ref A2 (r1.ext E2) e1
    cases e
    obtain ⟨A3, E3⟩ := A2.put h5 (getC_eq e1) (RepL.app h7 (.cons r2 .nil))
    exact ⟨p, vs, v2, rfl, rfl, h6, by rw [h7.len]; exact hz, k _ _ _ _ _ _ (E1.trans (E2.trans E3)) A3 (.d .non) q2⟩

/-! ### while -/
def whileR (c : TTD) (tb : TSD) (d : EndsD) : Nat → Ev → Sto → Prop
  | 0, _, _ => False
  | n + 1, ρ, cs => c ρ cs fun b cs1 => (b = true → tb { nx := whileR c tb d n, ct := whileR c tb d n, bk := d.nx, rt := d.rt } ρ cs1) ∧ (b = false → d.nx ρ cs1)
def dWhile (c : TTD) (tb : TSD) : TSD := fun d ρ cs => ∃ n, whileR c tb d n ρ cs
theorem es_while {body : List Stmt} (hp : PassesOwn (model X.prog X.w) X.A X.env X.xe) (hc : PT X c (upT X.K tt)) (hb : PSs X body (upS X.K ts)) : PS X (.While c body [] pos) (upS X.K (dWhile tt ts)) := (ps_while hp hc hb).weak (by
  rintro D σ H ⟨G, π, ρ, cs, d, A, s, ⟨n, q⟩, C⟩
  refine ⟨fun m σ' H' => ∃ G' π' ρ' cs', Ext G π H G' π' H' ∧ At X.K G' π' cs' H' ∧ Sl X.K G' π' σ' ρ' ∧ whileR tt ts d m ρ' cs', ⟨n, G, π, ρ, cs, .refl, A, s, q⟩, ?_⟩
  rintro m σ' H' ⟨G1, π1, ρ1, cs1, E1, A1, s1, q1⟩
  cases m with
  | zero => exact q1.elim
  | succ m =>
    refine ⟨G1, π1, ρ1, cs1, _, A1, s1, q1, fun b H2 cs2 G2 π2 E2 A2 q2 => ?_⟩
    have s2 := s1.ext E2
    cases b with
    | false =>
      refine iteF ?_
      exact C.nx _ _ _ _ _ _ (E1.trans E2) A2 s2 (q2.2 rfl)
    | true =>
      refine iteT ?_
      refine ⟨fun σ3 H3 => ∃ G' π' ρ' cs', Ext G π H G' π' H3 ∧ At X.K G' π' cs' H3 ∧ Sl X.K G' π' σ3 ρ' ∧ whileR tt ts d m ρ' cs', fun σ3 H3 w => ⟨m, Nat.lt_succ_self m, w⟩, ?_⟩
      have E := E1.trans E2
      exact ⟨G2, π2, ρ1, cs2, _, A2, s2, q2.1 rfl, ⟨fun σ3 H3 ρ3 cs3 G3 π3 E3 A3 s3 q3 => ⟨G3, π3, ρ3, cs3, E.trans E3, A3, s3, q3⟩, fun σ3 H3 ρ3 cs3 G3 π3 E3 A3 s3 q3 => C.nx _ _ _ _ _ _ (E.trans E3) A3 s3 q3,
        fun σ3 H3 ρ3 cs3 G3 π3 E3 A3 s3 q3 => ⟨G3, π3, ρ3, cs3, E.trans E3, A3, s3, q3⟩, fun v H3 x cs3 G3 π3 E3 A3 r3 q3 => C.rt _ _ _ _ _ _ (E.trans E3) A3 r3 q3⟩⟩)

/-! ### for -/
def forR (ok : Sto → Prop) (g : TGD) (tb : TSD) (d : EndsD) : List S → Ev → Sto → Prop
  | [], ρ, cs => ok cs ∧ d.nx ρ cs
  | x :: xs, ρ, cs => ok cs ∧ g x ρ cs fun ρ1 cs1 => tb { nx := forR ok g tb d xs, ct := forR ok g tb d xs, bk := d.nx, rt := d.rt } ρ1 cs1
def dFor (it : TID) (g : TGD) (tb : TSD) : TSD := fun d ρ cs => it ρ cs fun src cs1 => forR src.ok g tb d src.its ρ cs1
theorem es_for {iter : Expr} {body : List Stmt} {it : TID} {g : TGD} {is : List Nat} (hp : PassesOwn (model X.prog X.w) X.A X.env X.xe) (hc : X.calm = true) (hi : PI X tg iter (upI X.K it)) (hg : PG X tg (upG X.K is g)) (hb : PSs X body (upS X.K ts))
    (hs : ∀ x, foldedSetIterable iter X.env x = pure x := by intro _; rfl) : PS X (.For tg iter body [] pos) (upS X.K (dFor it g ts)) := (ps_for hp hc hi hg hb hs).weak (by
  rintro D σ H ⟨G, π, ρ, cs, d, A, s, q, C⟩
  refine ⟨G, π, ρ, cs, _, A, s, q, fun J src H1 cs1 G1 π1 E1 A1 IR q1 => ?_⟩
  refine ⟨fun i m σ' H' => m = src.its.length - i ∧ i ≤ src.its.length ∧ ∃ G' π' ρ' cs', Ext G1 π1 H1 G' π' H' ∧ At X.K G' π' cs' H' ∧ Sl X.K G' π' σ' ρ' ∧ forR src.ok g ts d (src.its.drop i) ρ' cs', ⟨_, rfl, Nat.zero_le _, G1, π1, ρ, cs1, .refl, A1, s.ext E1, by rw [List.drop_zero]; exact q1⟩, ?_⟩
  rintro i m σ' H' ⟨rfl, hle, G2, π2, ρ2, cs2, E2, A2, s2, q2⟩
  by_cases hlt : i < src.its.length
  · have hd : src.its.drop i = src.its[i] :: src.its.drop (i + 1) := List.drop_eq_getElem_cons hlt
    rw [hd] at q2
    obtain ⟨ok2, q2⟩ := q2
    obtain ⟨go, y⟩ := IR.go i src.its[i] G2 π2 cs2 H' E2.g E2.pp A2 ok2 (by simp [hlt])
    refine .inr ⟨go, fun σ3 H3 => ∃ G' π' ρ' cs', Ext G1 π1 H1 G' π' H3 ∧ At X.K G' π' cs' H3 ∧ Sl X.K G' π' σ3 ρ' ∧ forR src.ok g ts d (src.its.drop (i + 1)) ρ' cs', fun σ3 H3 w => ⟨src.its.length - (i + 1), by omega, rfl, hlt, w⟩, fun v H3 yv => ?_⟩
    obtain ⟨G3, E3, A3, r3⟩ := y v H3 yv
    have E := E2.trans E3
    refine ⟨G3, π2, ρ2, cs2, _, _, A3, s2.ext E3, r3, q2, fun σ4 H4 ρ4 cs4 G4 π4 E4 A4 s4 _ q4 => ?_⟩
    have E' := E.trans E4
    exact ⟨G4, π4, ρ4, cs4, _, A4, s4, q4, ⟨fun σ5 H5 ρ5 cs5 G5 π5 E5 A5 s5 q5 => ⟨G5, π5, ρ5, cs5, E'.trans E5, A5, s5, q5⟩, fun σ5 H5 ρ5 cs5 G5 π5 E5 A5 s5 q5 => C.nx _ _ _ _ _ _ (E1.trans (E'.trans E5)) A5 s5 q5,
      fun σ5 H5 ρ5 cs5 G5 π5 E5 A5 s5 q5 => ⟨G5, π5, ρ5, cs5, E'.trans E5, A5, s5, q5⟩, fun v H5 x cs5 G5 π5 E5 A5 r5 q5 => C.rt _ _ _ _ _ _ (E1.trans (E'.trans E5)) A5 r5 q5⟩⟩
  · have hi : i = src.its.length := by omega
    subst hi
    rw [List.drop_length] at q2
    exact .inl ⟨IR.stop _ G2 π2 cs2 H' E2.g E2.pp A2 q2.1 (Nat.le_refl _), C.nx _ _ _ _ _ _ (E1.trans E2) A2 s2 q2.2⟩)

/-! ### comprehensions -/
def compR (ok : Sto → Prop) (g : TGD) (tt : TTD) (te : TD) (ρ0 : Ev) (k : List S → Sto → Prop) : List S → List S → Sto → Prop
  | [], acc, cs => ok cs ∧ k acc cs
  | x :: xs, acc, cs => ok cs ∧ g x ρ0 cs fun ρ1 cs1 => tt ρ1 cs1 fun b cs2 => (b = true → te ρ1 cs2 fun y cs3 => compR ok g tt te ρ0 k xs (acc ++ [y]) cs3) ∧ (b = false → compR ok g tt te ρ0 k xs acc cs2)
def dYes : TTD := fun _ cs R => R true cs
theorem epts_nil : PTs X [] (upT X.K dYes) := ⟨fun pins s σ H Q I h => by
  obtain ⟨G, π, ρ, cs, R, A, sl, q, k⟩ := h
  exact pts_nil.run pins s σ H Q I (k _ _ _ _ _ .refl A q)⟩
theorem epts_one (h : PT X c (upT X.K tt)) : PTs X [c] (upT X.K tt) := pts_one h
/-- a comprehension: k what becomes of its items -/
def dLcG (it : TID) (g : TGD) (tt : TTD) (te : TD) (vs : List Nat) (k : List S → Sto → RK → Prop) : TD := fun ρ cs R => it ρ cs fun src cs1 => src.its.length ≤ sizeLine ∧ compR src.ok g tt te (wip ρ vs) (fun acc cs2 => k acc cs2 R) src.its [] cs1
/-- a list that stands -/
def kFro (acc : List S) (cs : Sto) (R : RK) : Prop := ∃ ds, datas acc = some ds ∧ R (.d (.list ds)) cs
/-- a list that will be written -/
def kMut (acc : List S) (cs : Sto) (R : RK) : Prop := R (.ref cs.length) (cs ++ [some acc])
def kOk (K : PySem.W.Frag) (k : List S → Sto → RK → Prop) : Prop := ∀ G π cs H D vs acc R (Q : Prop), At K G π cs H → G D = none → D ∉ π → H D = some (.lst vs) → RepL K G π vs acc → k acc cs R →
  (∀ G' π' x cs', Same G G' → (∀ a o, G' a = some o → G a = some o ∨ a = D) → (∃ πn, π' = π ++ πn ∧ ∀ a ∈ πn, a = D) → At K G' π' cs' H → RepS K G' π' (.ref D) x → R x cs' → Q) → Q
theorem kok_fro : kOk K kFro := by
  rintro G π cs H D vs acc R Q A hg hn hD r ⟨ds, e, q⟩ k
  rw [datas_eq e] at r
  have sm : Same G (upd G D (.lst vs)) := same_new hg
  refine k (upd G D (.lst vs)) π _ cs sm (fun a o h => ?_) ⟨[], by simp, by simp⟩ ⟨fun b u h => ?_, A.len, A.nd, A.tr, fun n a xs h1 h2 => ?_⟩ (.d (.lst (.of upd_same) (dpAll_mono sm (dpAll_of r)))) q
  · by_cases e : a = D
    · exact .inr e
    · rw [upd_ne e] at h; exact .inl h
  · by_cases e : b = D
    · subst e; rw [upd_same] at h; cases h; exact hD
    · rw [upd_ne e] at h; exact A.kn b u h
  · obtain ⟨g, ws, e2, r2⟩ := A.st n a xs h1 h2
    have hx : a ≠ D := fun e => hn (e ▸ List.mem_of_getElem? h1)
    exact ⟨by rw [upd_ne hx]; exact g, ws, e2, RepL.mono sm ⟨[], by simp⟩ r2⟩
theorem kok_mut : kOk K kMut := by
  rintro G π cs H D vs acc R Q A hg hn hD r q k
  refine k G (π ++ [D]) _ _ (Same.refl _) (fun a o h => .inl h) ⟨[D], rfl, fun a ha => by simpa using ha⟩ (A.cell hg hn hD r) (.ref (by rw [← A.len]; simp)) q
theorem up_lc {it : TID} {g : TGD} {is vs : List Nat} {kk : List S → Sto → RK → Prop} (hk : kOk K kk) (his : ∀ i ∈ is, i ∈ vs) : ∀ σ H Q, upE K (dLcG it g tt te vs kk) σ H Q → tLc (upI K it) (upG K is g) (upT K tt) (upE K te) vs σ H Q := by
  rintro σ H Q ⟨G, π, ρ, cs, R, A, s, q, k⟩
  refine ⟨G, π, ρ, cs, _, A, s, q, fun J src H1 cs1 G1 π1 E1 A1 IR q1 D hD => ?_⟩
  obtain ⟨hz, q1⟩ := q1
  obtain ⟨A0, E0⟩ := A1.junk hD (.lst [])
  refine ⟨fun i m H' => m = src.its.length - i ∧ i ≤ src.its.length ∧ ∃ G' π' cs' vac acc, Ext G1 π1 H1 G' π' H' ∧ At K G' π' cs' H' ∧ G' D = none ∧ D ∉ π' ∧ H' D = some (.lst vac) ∧ RepL K G' π' vac acc ∧ acc.length ≤ i ∧
    compR src.ok g tt te (wip ρ vs) (fun acc cs2 => kk acc cs2 R) (src.its.drop i) acc cs', ⟨_, rfl, Nat.zero_le _, G1, π1, cs1, [], [], E0, A0, A1.free hD, A1.nin hD, upd_same, .nil, Nat.le_refl _, by rw [List.drop_zero]; exact q1⟩, ?_⟩
  rintro i m H' ⟨rfl, hle, G2, π2, cs2, vac, acc, E2, A2, gD, pD, hD2, ra, hla, q2⟩
  have s2 := (s.ext E1).ext E2
  -- the accumulated list stands through a step
  have keep : ∀ {G3 π3 H3}, Ext G2 π2 H' G3 π3 H3 → H3 D = some (.lst vac) ∧ G3 D = none ∧ D ∉ π3 := fun {G3 π3 H3} E => by
    refine ⟨E.f D _ pD hD2, ?_, ?_⟩
    · cases h : G3 D with
      | none => rfl
      | some o =>
        rcases E.gn D o h with z | z | z
        · rw [gD] at z; cases z
        · rw [hD2] at z; cases z
        · exact absurd z pD
    · obtain ⟨πn, rfl, hn⟩ := E.p
      intro hm
      rcases List.mem_append.mp hm with z | z
      · exact pD z
      · have := hn D z; rw [hD2] at this; cases this
  by_cases hlt : i < src.its.length
  · have hd : src.its.drop i = src.its[i] :: src.its.drop (i + 1) := List.drop_eq_getElem_cons hlt
    rw [hd] at q2
    obtain ⟨ok2, q2⟩ := q2
    obtain ⟨go, y⟩ := IR.go i src.its[i] G2 π2 cs2 H' E2.g E2.pp A2 ok2 (by simp [hlt])
    refine .inr ⟨go, fun H3 => i + 1 ≤ src.its.length ∧ ∃ G' π' cs' vac acc, Ext G1 π1 H1 G' π' H3 ∧ At K G' π' cs' H3 ∧ G' D = none ∧ D ∉ π' ∧ H3 D = some (.lst vac) ∧ RepL K G' π' vac acc ∧ acc.length ≤ i + 1 ∧
      compR src.ok g tt te (wip ρ vs) (fun acc cs2 => kk acc cs2 R) (src.its.drop (i + 1)) acc cs', fun H3 w => ⟨src.its.length - (i + 1), by omega, rfl, w.1, w.2⟩, fun v H3 yv => ?_⟩
    obtain ⟨G3, E3, A3, r3⟩ := y v H3 yv
    refine ⟨G3, π2, wip ρ vs, cs2, _, _, A3, (s2.wip vs).ext E3, r3, q2, fun σ4 H4 ρ4 cs4 G4 π4 E4 A4 s4 ch q4 => ⟨ch.wipe his, ?_⟩⟩
    refine ⟨G4, π4, ρ4, cs4, _, A4, s4, q4, fun b H5 cs5 G5 π5 E5 A5 q5 => ?_⟩
    have E35 := E3.trans (E4.trans E5)
    cases b with
    | false =>
      refine iteF ?_
      obtain ⟨k1, k2, k3⟩ := keep E35
      exact ⟨hlt, G5, π5, cs5, vac, acc, E2.trans E35, A5, k2, k3, k1, RepL.ext E35 ra, by omega, q5.2 rfl⟩
    | true =>
      refine iteT ?_
      refine ⟨G5, π5, ρ4, cs5, _, A5, s4.ext E5, q5.1 rfl, fun w H6 x6 cs6 G6 π6 E6 A6 r6 q6 => ?_⟩
      have E36 := E35.trans E6
      obtain ⟨k1, k2, k3⟩ := keep E36
      have ra6 := RepL.ext E36 ra
      refine ⟨vac, k1, by rw [ra.len]; exact Nat.lt_of_lt_of_le (Nat.lt_of_le_of_lt hla hlt) hz, hlt, G6, π6, cs6, vac ++ [w], acc ++ [x6], ?_, ?_, k2, k3, upd_same, RepL.app ra6 (.cons r6 .nil), by simp; omega, q6⟩
      · have E := E2.trans E36
        refine ⟨E.g, E.p, fun a o ha e => ?_, fun a e => ?_, E.gn⟩
        · rw [upd_ne (ne_of_none e hD)]; exact E.f a o ha e
        · by_cases h : a = D
          · subst h; exact hD
          · rw [upd_ne h] at e; exact E.dm a e
      · refine ⟨fun a o e => ?_, A6.len, A6.nd, fun a ha => ?_, fun n a xs h1 h2 => ?_⟩
        · rw [upd_ne (ne_of_none e k2)]; exact A6.kn a o e
        · have h : a ≠ D := fun z => k3 (z ▸ ha)
          rw [upd_ne h]; exact A6.tr a ha
        · have h : a ≠ D := fun z => k3 (z ▸ List.mem_of_getElem? h1)
          rw [upd_ne h]; exact A6.st n a xs h1 h2
  · have hi : i = src.its.length := by omega
    subst hi
    rw [List.drop_length] at q2
    refine .inl ⟨IR.stop _ G2 π2 cs2 H' E2.g E2.pp A2 q2.1 (Nat.le_refl _), ?_⟩
    refine hk G2 π2 cs2 H' D vac acc R _ A2 gD pD hD2 ra q2.2 fun G' π' x cs' sm gn hp A' r' q' => ?_
    obtain ⟨πn, rfl, hn⟩ := hp
    obtain ⟨πm, e2, hm⟩ := E2.p
    refine k _ _ _ _ _ _ (E1.trans (⟨E2.g.trans sm, ⟨πm ++ πn, by rw [e2, List.append_assoc], fun a ha => ?_⟩, E2.f, E2.dm, fun a o e => ?_⟩ : Ext G1 π1 H1 G' (π2 ++ πn) H')) A' r' q'
    · rcases List.mem_append.mp ha with z | z
      · exact hm a z
      · rw [hn a z]; exact hD
    · rcases gn a o e with z | z
      · exact E2.gn a o z
      · rw [z]; exact .inr (.inl hD)
theorem ee_lcG {elt iter : Expr} {ifs : List Expr} {scope : Scope} {own : List (Str × Nat)} {it : TID} {g : TGD} {is : List Nat} {kk : List S → Sto → RK → Prop} (hk : kOk X.K kk) (his : ∀ i ∈ is, i ∈ own.map (·.2)) (hc : X.calm = true) (hN : X.N.Nodup) (hi : PI X tg iter (upI X.K it)) (ok : BlkOk X.N X.env.scope scope own)
    (hg : ∀ (s : Shared) (H : Hp) (C : Addr) (cl : List (Str × Addr)) (fp : List Addr), PG (X.blk s H scope (compEnvC scope cl C X.env) fp) tg (upG X.K is g)) (ht : ∀ (s : Shared) (H : Hp) (C : Addr) (cl : List (Str × Addr)) (fp : List Addr), PTs (X.blk s H scope (compEnvC scope cl C X.env) fp) ifs (upT X.K tt))
    (he : ∀ (s : Shared) (H : Hp) (C : Addr) (cl : List (Str × Addr)) (fp : List Addr), PE (X.blk s H scope (compEnvC scope cl C X.env) fp) elt (upE X.K te)) (hs : ∀ x, foldedSetIterable iter X.env x = pure x := by intro _; rfl) :
    PE X (.ListComp elt [⟨tg, iter, ifs, 0⟩] scope pos) (upE X.K (dLcG it g tt te (own.map (·.2)) kk)) := (pe_lc hc hN hi ok hg ht he hs).weak (up_lc hk his)
/-- name = [..] on one line -/
theorem es_setLcG (i : Nat) {y : Str} {py : Pos} {elt iter : Expr} {ifs : List Expr} {scope : Scope} {own : List (Str × Nat)} {spos : Pos} {it : TID} {g : TGD} {is : List Nat} {kk : List S → Sto → RK → Prop} (hk : kOk X.K kk) (his : ∀ i ∈ is, i ∈ own.map (·.2)) (hc : X.calm = true) (hN : X.N.Nodup) (hy : X.N[i]? = some y) (hyl : X.env.scope.names.lookup y = some .local)
    (hsw : swapsWith (.ListComp elt [⟨tg, iter, ifs, 0⟩] scope pos) (some (.Name y py)) spos.line X.env = pure true) (hi : PI X tg iter (upI X.K it)) (ok : BlkOk X.N X.env.scope scope own)
    (hg : ∀ (s : Shared) (H : Hp) (C : Addr) (cl : List (Str × Addr)) (fp : List Addr), PG (X.blk s H scope (compEnvC scope cl C X.env) fp) tg (upG X.K is g)) (ht : ∀ (s : Shared) (H : Hp) (C : Addr) (cl : List (Str × Addr)) (fp : List Addr), PTs (X.blk s H scope (compEnvC scope cl C X.env) fp) ifs (upT X.K tt))
    (he : ∀ (s : Shared) (H : Hp) (C : Addr) (cl : List (Str × Addr)) (fp : List Addr), PE (X.blk s H scope (compEnvC scope cl C X.env) fp) elt (upE X.K te)) (hs : ∀ x, foldedSetIterable iter X.env x = pure x := by intro _; rfl) :
    PS X (.Assign [.Name y py] (.ListComp elt [⟨tg, iter, ifs, 0⟩] scope pos) spos) (upS X.K (dAsg (dLcG it g tt te (own.map (·.2)) kk) (dgName i))) := (ps_setLc hc hN hy hyl hsw hi ok hg ht he hs).weak (by
  rintro D σ H ⟨G, π, ρ, cs, d, A, s, q, C⟩
  refine up_lc hk his σ H _ ⟨G, π, ρ, cs, _, A, s, q, fun v H1 x cs1 G1 π1 E1 A1 r1 q1 => ?_⟩
  exact C.nx _ _ _ _ _ _ E1 A1 ((s.ext E1).set i r1) q1)

/-! ### a def's body -/
/-- the slots at the entry -/
def startD (n : Nat) (xs : List S) : Ev := xs.map some ++ List.replicate (n - xs.length) none
theorem sl_start {G : Hp} {π : List Addr} {N : List Str} {vs : List V} {xs : List S} (r : RepL K G π vs xs) : Sl K G π (L2.start N vs) (startD N.length xs) := by
  unfold L2.start startD
  refine ⟨by simp [r.len], fun i x e => ?_⟩
  by_cases hi : i < xs.length
  · rw [List.getElem?_append_left (by simpa using hi), List.getElem?_map] at e
    cases q : xs[i]? with
    | none => rw [q] at e; cases e
    | some y =>
      rw [q] at e
      cases e
      obtain ⟨v, hv, rv⟩ := r.get q
      exact ⟨v, by rw [List.getElem?_append_left (by rw [List.length_map, r.len]; exact hi), List.getElem?_map, hv]; rfl, rv⟩
  · rw [List.getElem?_append_right (by simpa using Nat.le_of_not_lt hi)] at e
    have := List.getElem?_eq_some_iff.mp e
    simp at this
/-- what a body is to reach: the cells made within are forgotten, or handed on -/
def rtD (n : Nat) (R : RK) : RK := fun x cs' => R x cs' ∨ ∃ cs1 gs, cs' = cs1 ++ gs ∧ cs1.length = n ∧ Okc n cs1 ∧ Okx n x ∧ R x cs1
abbrev endsD (n : Nat) (R : RK) : EndsD := { nx := fun _ cs' => rtD n R (.d .none) cs', rt := rtD n R, bk := fun _ _ => False, ct := fun _ _ => False }
end
section
variable {P : Program} {w : World} {K : PySem.W.Frag} {mg : Str → Option Value} {base : Heap}
theorem fn_okD {x : Str} {st : Stmt} {f : Addr} {fd : FuncData} {N ps : List Str} {k n : Nat} {T : DSp} (F : Fun K x x st f fd) (S : FnScope N ps (defScope st)) (hn : ps.length = n)
    (hbody : ∀ (cdv : Value) (A : Around) (outer : List Env) (s : Shared) (H : Hp), Room k (A.deeper (envOfC x (defScope st) s.heap.objs.size f cdv)) →
      ∃ t, PSs (cxOf CX0 P w K mg base N x (defScope st) f cdv A outer s H E0).nox (defBody st) (upS K t) ∧ ∀ xs cs R, xs.length = n → Okc cs.length cs → T xs cs R → t (endsD cs.length R) (startD N.length xs) cs) :
    FnOk P w K mg base CX0 (k + 1) f fd ps (spD K n T) := by
  refine F.ok S (fun vs H Q E h => by rw [hn]; exact h.1) (fun cdv A outer s H vs Q E hr h => ?_)
  obtain ⟨hl, G, π, cs, xs, R, A1, r, q, k⟩ := h
  obtain ⟨t, ht, hq⟩ := hbody cdv A outer s H hr
  refine ⟨upS K t, ⟨fun pins s' σ' H' D' I' q' => ht.run pins s' σ' H' D' I' q'⟩, G, π, startD N.length xs, cs, endsD cs.length R, A1, sl_start r, hq xs cs R (by rw [← r.len]; exact hl) A1.okc q, ?_⟩
  have fin : ∀ v H' x cs' G' π', Ext G π H G' π' H' → At K G' π' cs' H' → RepS K G' π' v x → rtD cs.length R x cs' → Q v H' := fun v H' x cs' G' π' E' A' r' q' => by
    rcases q' with q' | ⟨cs1, gs, rfl, hl, hc, hx, q'⟩
    · exact k v H' x cs' G' π' E' A' r' q'
    · obtain ⟨πn, rfl, hn⟩ := E'.p
      have hl2 : π.length = cs1.length := by rw [A1.len, hl]
      refine k v H' x cs1 G' π ⟨E'.g, ⟨[], by simp, by simp⟩, E'.f, E'.dm, E'.gn⟩ (A'.drop hl2 (by rw [hl]; exact hc)) (repS_back r' (by rw [A1.len]; exact hx)) q'
  exact ⟨fun σ' H' ρ' cs' G' π' E' A' s' q' => fin _ _ _ _ _ _ E' A' (.d .non) q', fun _ _ _ _ _ _ _ _ _ q => q.elim, fun _ _ _ _ _ _ _ _ _ q => q.elim, fin⟩
end
end FL

set_option Elab.async false
set_option linter.all false
set_option maxRecDepth 100000
set_option maxHeartbeats 1000000
namespace FL
open PySem L2 RZ PyProof.Rows

section
variable {X : Cx} {K : PySem.W.Frag} {a b c e tg : Expr} {es : List Expr} {ta tb tc te : TD} {t : TAD} {tt : TTD} {pos p : Pos} {x : Str}
theorem ee_chain {op op' : CmpOp} {r r' : R2} {rd rd' : RD2} (h : Sim2 X.K r rd) (h' : Sim2 X.K r' rd') (ho : OpR X (compareOp op) r) (ho' : OpR X (compareOp op') r') (ha : PE X a (upE X.K ta)) (hb : PE X b (upE X.K tb)) (hc : PE X c (upE X.K tc)) (hm : lastMarks [op, op'] [b, c] = false := by with_unfolding_all rfl) :
    PE X (.Compare a [op, op'] [b, c] pos) (upE X.K (dChain rd rd' ta tb tc)) := (pe_chain ho ho' ha hb hc hm).weak (up_chain h h')
theorem et_chain {op op' : CmpOp} {r r' : R2} {rd rd' : RD2} (h : Sim2 X.K r rd) (h' : Sim2 X.K r' rd') (ho : OpR X (compareOp op) r) (ho' : OpR X (compareOp op') r') (ha : PE X a (upE X.K ta)) (hb : PE X b (upE X.K tb)) (hc : PE X c (upE X.K tc)) (hm : lastMarks [op, op'] [b, c] = false := by with_unfolding_all rfl) :
    PT X (.Compare a [op, op'] [b, c] pos) (upT X.K (dTestR (dChain rd rd' ta tb tc))) := (pt_chain ho ho' ha hb hc hm).weak (up_test (up_chain h h'))
/-- a + b: ints, tuples, texts, lists -/
def qAddG : RD2 := fun x y cs R => match x with
  | .d (.int i) => ∃ j, y = si j ∧ R (si (i + j)) cs
  | .d (.tuple ds) => ∃ es, y = .d (.tuple es) ∧ ds.length + es.length ≤ sizeLine ∧ R (.d (.tuple (ds ++ es))) cs
  | .d (.str z) => ∃ w, y = .d (.str w) ∧ z.length + w.length ≤ sizeLine ∧ R (.d (.str (z ++ w))) cs
  | _ => False
theorem sim_addG : Sim2 K (fun x y H Q => rI0 (fun i j => .int (i + j)) x y H Q ∨ rCatA K x y H Q ∨ ∃ i j, x = .str i ∧ y = .str j ∧ i.length + j.length ≤ sizeLine ∧ Q (.str (i ++ j)) H) qAddG := by
  intro G π cs H v w x y R Q A rv rw q k
  cases x with
  | ref n => exact q.elim
  | d x =>
    cases x <;> try (exact q.elim; done)
    · obtain ⟨j, rfl, q⟩ := q
      exact .inl (sim_I0 G π cs H v w _ _ R Q A rv rw ⟨_, _, rfl, rfl, q⟩ k)
    · obtain ⟨j, rfl, hz, q⟩ := q
      cases rv with
      | d rv => cases rv; cases rw with
        | d rw => cases rw; exact .inr (.inr ⟨_, _, rfl, rfl, hz, k _ _ _ _ _ _ .refl A (.d (.str _)) q⟩)
    · obtain ⟨es, rfl, hz, q⟩ := q
      exact .inr (.inl (sim_catT G π cs H v w _ _ R Q A rv rw ⟨_, _, rfl, rfl, hz, q⟩ k))
theorem ee_addG (ha : PE X a (upE X.K ta)) (hb : PE X b (upE X.K tb)) : PE X (.BinOp a .Add b pos) (upE X.K (dOp qAddG ta tb)) := ee_op sim_addG (op_add.or (op_catA.or op_add_str)) ha hb
end

/-! ### the law's own end -/
/-- a law's promise: at most n ints come, True goes -/
def TLaw (n : Nat) : DSp := fun xs cs R => cs = [] ∧ ∃ ns : List Int, xs = [.d (.list (ns.map PyData.int))] ∧ ns.length ≤ n ∧ ∀ cs', R (sb true) cs'
theorem dp_script {K : PySem.W.Frag} {H : Hp} : ∀ ns : List Int, DpAll K H (ns.map V.int) (ns.map PyData.int)
  | [] => .nil
  | n :: ns => .cons (.int n) (dp_script ns)
theorem law_sp {n : Nat} {K : PySem.W.Frag} {H : Hp} {a : Addr} {ns : List Int} {E : XK} (hl : ns.length ≤ n) (h : SqL K H a (ns.map V.int)) : spD K 1 (TLaw n) [.ref a] H (fun v _ => v = .bl true) E := by
  refine ⟨rfl, H, [], [], [.d (.list (ns.map PyData.int))], fun x _ => x = sb true, ⟨Same.refl _, rfl, List.nodup_nil, (fun a h => by simp at h), (fun n a xs h => by simp at h)⟩, .cons (.d (.lst h (dp_script ns))) .nil, ⟨rfl, ns, rfl, hl, fun _ => rfl⟩, ?_⟩
  rintro v H' x cs' G' π' E' A' r rfl
  exact rep_bl r
theorem walkD {l : PySem.W.OpenLaw} {q : Program} {loose : List Str} {XP : (Str → Option Value) → Heap → Prop} {YP : World → Heap → Prop} {d : DefRec} {K : Params → PySem.W.Frag} {k : Nat} (hn : l.most = some 63) (hdf : d.params.defaults = []) (hr : Room k callerA)
    (hY : ∀ (w : World) (h : Heap), YP w h → (K w.params).In h)
    (F : ∀ (w : World) (mg : Str → Option Value) (fa : Addr) (h : Heap), (K w.params).In h → h.Ns mainGlobals mg → mg d.name = some (.ref fa) →
      ∃ fd : FuncData, (∀ (s : Shared) (u : Value), BindsTo s fd ⟨[u], []⟩ [("script", u)]) ∧ ∀ base : Heap, (K w.params).In base → base.Ns mainGlobals mg → FnOk l.prog w (K w.params) mg base CX0 k fa fd ["script"] (spD (K w.params) 1 (TLaw 63))) :
    PySem.W.WalkO q loose XP YP l.row.toRowW d [] (fun f vs => PySem.call f vs) :=
  L2.walk_of (n := 63) (k := k) (x := "script") (CX := fun _ => CX0) (sp := fun w => spD (K w.params) 1 (TLaw 63)) hn (by decide) hdf hr hY F (fun _ _ a ns hl _ hS => law_sp hl hS) fun _ _ _ _ _ z => z

/-- from the head's facts: a def of the module -/
theorem defat {P : Program} {w : World} {K : PySem.W.Frag} {mg : Str → Option Value} {base : Heap} {h : Heap} {x : Str} {st : Stmt} {f : Addr} {oc : Value} {od an : Option Addr} {osl : Array (Option Value)} {kV doc pm cdv ct : Value} {ps : List Str} {k : Nat} {T : DSp}
    (X : K.In h) (G : h.Ns mainGlobals mg) (a : PySem.W.nsIn K mainGlobals x = some (some (.ref f)))
    (l : K.lookup f = some ⟨oc, od, .func (PySem.W.fnOf x x (defArgs st) (defBody st) (defScope st) .none kV doc pm an cdv ct), osl⟩)
    (c : PySem.W.codeIn K cdv x = true) (kp : PySem.W.keepIn K (.ref f) = true)
    (hb : ∀ (kV doc pm : Value) (an : Option Addr) (cdv ct : Value) (us : List Value), us.length = ps.length → bindArgs (PySem.W.fnOf x x (defArgs st) (defBody st) (defScope st) .none kV doc pm an cdv ct) ⟨us, []⟩ = pure (ps.zip us))
    (ok : ∀ (f : Addr) (fd : FuncData), Fun K x x st f fd → FnOk P w K mg base CX0 k f fd ps (spD K ps.length T)) : DefAt P w K mg base k x ps T :=
  ⟨f, _, ok _ _ (fun_mk l c kp), PySem.W.mg_of X G a, kp, (fun_mk (st := st) l c kp).binds hb⟩
/-- a row of the head's facts for a def -/
structure Row (K : PySem.W.Frag) (x : Str) (st : Stmt) : Prop where
  ex : ∃ (f : Addr) (oc : Value) (od an : Option Addr) (osl : Array (Option Value)) (kV doc pm cdv ct : Value), PySem.W.nsIn K mainGlobals x = some (some (.ref f)) ∧
    K.lookup f = some ⟨oc, od, .func (PySem.W.fnOf x x (defArgs st) (defBody st) (defScope st) .none kV doc pm an cdv ct), osl⟩ ∧ PySem.W.codeIn K cdv x = true ∧ PySem.W.keepIn K (.ref f) = true
theorem Row.mk' {K : PySem.W.Frag} {x : Str} {st : Stmt} {f : Addr} {oc : Value} {od an : Option Addr} {osl : Array (Option Value)} {kV doc pm cdv ct : Value} (a : PySem.W.nsIn K mainGlobals x = some (some (.ref f)))
    (l : K.lookup f = some ⟨oc, od, .func (PySem.W.fnOf x x (defArgs st) (defBody st) (defScope st) .none kV doc pm an cdv ct), osl⟩)
    (c : PySem.W.codeIn K cdv x = true) (kp : PySem.W.keepIn K (.ref f) = true) : Row K x st := ⟨f, oc, od, an, osl, kV, doc, pm, cdv, ct, a, l, c, kp⟩
theorem Row.at_ {P : Program} {w : World} {K : PySem.W.Frag} {mg : Str → Option Value} {base : Heap} {h : Heap} {x : Str} {st : Stmt} {ps : List Str} {k : Nat} {T : DSp} (r : Row K x st)
    (X : K.In h) (G : h.Ns mainGlobals mg)
    (hb : ∀ (kV doc pm : Value) (an : Option Addr) (cdv ct : Value) (us : List Value), us.length = ps.length → bindArgs (PySem.W.fnOf x x (defArgs st) (defBody st) (defScope st) .none kV doc pm an cdv ct) ⟨us, []⟩ = pure (ps.zip us))
    (ok : ∀ (f : Addr) (fd : FuncData), Fun K x x st f fd → FnOk P w K mg base CX0 k f fd ps (spD K ps.length T)) : DefAt P w K mg base k x ps T :=
  let ⟨_, _, _, _, _, _, _, _, _, _, a, l, c, kp⟩ := r.ex
  defat X G a l c kp hb ok
/-- the law itself -/
theorem Row.law {P : Program} {w : World} {K : PySem.W.Frag} {mg : Str → Option Value} {h : Heap} {x : Str} {st : Stmt} {y : Str} {k : Nat} {T : DSp} {fa : Addr} (r : Row K x st)
    (X : K.In h) (G : h.Ns mainGlobals mg) (hfa : mg x = some (.ref fa))
    (hb : ∀ (kV doc pm : Value) (an : Option Addr) (cdv ct : Value) (u : Value), bindArgs (PySem.W.fnOf x x (defArgs st) (defBody st) (defScope st) .none kV doc pm an cdv ct) ⟨[u], []⟩ = pure [(y, u)])
    (ok : ∀ (base : Heap), K.In base → base.Ns mainGlobals mg → ∀ (f : Addr) (fd : FuncData), Fun K x x st f fd → FnOk P w K mg base CX0 k f fd [y] (spD K 1 T)) :
    ∃ fd : FuncData, (∀ (s : Shared) (u : Value), BindsTo s fd ⟨[u], []⟩ [(y, u)]) ∧ ∀ base : Heap, K.In base → base.Ns mainGlobals mg → FnOk P w K mg base CX0 k fa fd [y] (spD K 1 T) := by
  obtain ⟨f, oc, od, an, osl, kV, doc, pm, cdv, ct, a, l, c, kp⟩ := r.ex
  have e := hfa.symm.trans (PySem.W.mg_of X G a)
  cases e
  exact ⟨_, fun s u => .of_eq (hb ..), fun base hb hg => ok base hb hg _ _ (fun_mk l c kp)⟩
/-- a tuple of whole numbers at the module's top -/
theorem glob_ints {K : PySem.W.Frag} {mg : Str → Option Value} {h : Heap} {x : Str} {a : Addr} {dd : Option Addr} {its : Array Value} {n : Nat} {sl : Array (Option Value)} {ns : List Int} (X : K.In h) (G : h.Ns mainGlobals mg)
    (e : PySem.W.nsIn K mainGlobals x = some (some (.ref a))) (l : K.lookup a = some ⟨.type "tuple", dd, .seq its n, sl⟩) (hz : its.size ≤ 1000) (r : Vals (ns.map V.int) its.toList) : GlobD K mg x (.tuple (ns.map PyData.int)) :=
  ⟨.ref a, .ref a, PySem.W.mg_of X G e, rfl, fun G' => .tup (.inr ⟨_, its, n, l, rfl, rfl, Nat.le_trans hz (by decide), r⟩) (dp_script ns)⟩
theorem glob01 {K : PySem.W.Frag} {mg : Str → Option Value} {h : Heap} {x : Str} {a : Addr} {dd : Option Addr} {its : Array Value} {n : Nat} {sl : Array (Option Value)} (X : K.In h) (G : h.Ns mainGlobals mg)
    (e : PySem.W.nsIn K mainGlobals x = some (some (.ref a))) (l : K.lookup a = some ⟨.type "tuple", dd, .seq its n, sl⟩) (hz : its.size ≤ 1000) (r : Vals [V.int 0, V.int 1] its.toList) : GlobD K mg x (.tuple [.int 0, .int 1]) := glob_ints (ns := [0, 1]) X G e l hz r
end FL

set_option Elab.async false
set_option linter.all false
set_option maxRecDepth 100000
set_option maxHeartbeats 1000000
namespace FL
open PySem L2
/-! running a reading -/
theorem eqv_ii (i j : Int) : PyData.eqv (.int i) (.int j) = decide (i = j) := by rw [PyData.eqv]; exact Bool.beq_eq_decide_eq i j
theorem eqv_bb (i j : Bool) : PyData.eqv (.bool i) (.bool j) = (i == j) := by rw [PyData.eqv]
theorem eqv_ss (i j : Str) : PyData.eqv (.str i) (.str j) = (i == j) := by rw [PyData.eqv]
theorem eqv_tt (xs ys : List PyData) : PyData.eqv (.tuple xs) (.tuple ys) = PyData.eqvAll xs ys := by rw [PyData.eqv]
theorem eqv_ll (xs ys : List PyData) : PyData.eqv (.list xs) (.list ys) = PyData.eqvAll xs ys := by rw [PyData.eqv]
theorem eqvA_n : PyData.eqvAll [] [] = true := by rw [PyData.eqvAll]
theorem eqvA_c (x y : PyData) (xs ys : List PyData) : PyData.eqvAll (x :: xs) (y :: ys) = (PyData.eqv x y && PyData.eqvAll xs ys) := by rw [PyData.eqvAll]
theorem eqvA_nc (y : PyData) (ys : List PyData) : PyData.eqvAll [] (y :: ys) = false := by rw [PyData.eqvAll]
theorem eqvA_cn (y : PyData) (ys : List PyData) : PyData.eqvAll (y :: ys) [] = false := by rw [PyData.eqvAll]
theorem rt_l {n : Nat} {R : RK} {x : S} {cs : Sto} (h : R x cs) : rtD n R x cs := .inl h
/-- what was made within is forgotten -/
theorem rt_g {R : RK} {x : PyData} {cs : Sto} (gs : Sto) (hc : Okc cs.length cs) (h : R (.d x) cs) : rtD cs.length R (.d x) (cs ++ gs) := .inr ⟨cs, gs, rfl, rfl, hc, trivial, h⟩
theorem sd1 (x : S) (n : Nat) : startD (n + 1) [x] = some x :: List.replicate n none := by simp [startD]
theorem sd2 (x y : S) (n : Nat) : startD (n + 2) [x, y] = some x :: some y :: List.replicate n none := by simp [startD]
theorem sd3 (x y z : S) (n : Nat) : startD (n + 3) [x, y, z] = some x :: some y :: some z :: List.replicate n none := by simp [startD]
theorem rg0 (lo : Int) : rgS lo 0 = [] := rfl
theorem rgS_succ (lo : Int) (n : Nat) : rgS lo (n + 1) = si lo :: rgS (lo + 1) n := by
  unfold rgS
  rw [List.range_succ_eq_map, List.map_cons, List.map_map]
  congr 1
  · simp
  · refine List.map_congr_left fun k _ => ?_
    show si (lo + ((k + 1 : Nat) : Int)) = si (lo + 1 + (k : Int))
    rw [show lo + ((k + 1 : Nat) : Int) = lo + 1 + (k : Int) by omega]
theorem rgS_len (lo : Int) (n : Nat) : (rgS lo n).length = n := by simp [rgS]
theorem forR_nil {ok : Sto → Prop} {g : TGD} {tb : TSD} {d : EndsD} {ρ : Ev} {cs : Sto} : forR ok g tb d [] ρ cs = (ok cs ∧ d.nx ρ cs) := rfl
theorem forR_cons {ok : Sto → Prop} {g : TGD} {tb : TSD} {d : EndsD} {x : S} {xs : List S} {ρ : Ev} {cs : Sto} : forR ok g tb d (x :: xs) ρ cs = (ok cs ∧ g x ρ cs fun ρ1 cs1 => tb { nx := forR ok g tb d xs, ct := forR ok g tb d xs, bk := d.nx, rt := d.rt } ρ1 cs1) := rfl
theorem map_app (row : List Int) (x : Int) : row.map si ++ [si x] = (row ++ [x]).map si := by simp
theorem datas_si (row : List Int) : datas (row.map si) = some (row.map PyData.int) := by
  have := datas_map (row.map PyData.int)
  rw [List.map_map] at this
  exact this
theorem atI_at {α : Type} {xs : List α} {i : Int} {x : α} (h0 : 0 ≤ i) (h : xs[i.toNat]? = some x) : atI xs i = some x := by
  have e : i = (i.toNat : Int) := by omega
  rw [e]
  exact atI_nat h
theorem atI_of {α : Type} {xs : List α} {i : Int} (h0 : 0 ≤ i) (h : i < (xs.length : Int)) : ∃ x, x ∈ xs ∧ atI xs i = some x := by
  have hl : i.toNat < xs.length := by omega
  exact ⟨xs[i.toNat], List.getElem_mem hl, atI_at h0 (by simp [hl])⟩
/-! the rules by the form of what comes -/
section
variable {n m : Nat} {ds es : List PyData} {xs : List S} {cs : Sto} {R : RK} {y : S} {z : Str} {i j : Int} {b c : Bool} {ρ : Ev}
theorem ixk_l : ixkR n (.d (.list ds)) cs R = ∃ d, ds[n]? = some d ∧ R (.d d) cs := rfl
theorem ixk_t : ixkR n (.d (.tuple ds)) cs R = ∃ d, ds[n]? = some d ∧ R (.d d) cs := rfl
theorem ixk_r : ixkR n (.ref m) cs R = ∃ xs x, getC cs m = some xs ∧ xs[n]? = some x ∧ R x cs := rfl
theorem ixr_l : dIxR (.d (.list ds)) y cs R = ∃ i d, y = si i ∧ atI ds i = some d ∧ R (.d d) cs := rfl
theorem ixr_t : dIxR (.d (.tuple ds)) y cs R = ∃ i d, y = si i ∧ atI ds i = some d ∧ R (.d d) cs := rfl
theorem ixr_s : dIxR (.d (.str z)) y cs R = ∃ i c, y = si i ∧ z.length ≤ sizeLine ∧ atI z.cps.toList i = some c ∧ R (.d (.str ⟨#[c]⟩)) cs := rfl
theorem ixr_r : dIxR (.ref m) y cs R = ∃ i xs x, y = si i ∧ getC cs m = some xs ∧ atI xs i = some x ∧ R x cs := rfl
variable {RB : Bool → Sto → Prop} {RI : Src → Sto → Prop} {RG : Ev → Sto → Prop} {gs : TGsD}
theorem tru_n : dTruR (.d .none) cs RB = RB false cs := rfl
theorem tru_b : dTruR (.d (.bool b)) cs RB = RB b cs := rfl
theorem tru_i : dTruR (.d (.int i)) cs RB = RB (i != 0) cs := rfl
theorem tru_l : dTruR (.d (.list ds)) cs RB = RB (!ds.isEmpty) cs := rfl
theorem tru_t : dTruR (.d (.tuple ds)) cs RB = RB (!ds.isEmpty) cs := rfl
theorem tru_s : dTruR (.d (.str z)) cs RB = (z.length ≤ sizeLine ∧ RB ((z.length : Int) != 0) cs) := rfl
theorem tru_r : dTruR (.ref m) cs RB = ∃ xs, getC cs m = some xs ∧ RB (!xs.isEmpty) cs := rfl
theorem its_l : itemsR (.d (.list ds)) cs RI = RI ⟨ds.map S.d, okT⟩ cs := rfl
theorem its_t : itemsR (.d (.tuple ds)) cs RI = RI ⟨ds.map S.d, okT⟩ cs := rfl
theorem its_r : itemsR (.ref m) cs RI = ∃ xs, getC cs m = some xs ∧ RI ⟨xs, fun cs => getC cs m = some xs⟩ cs := rfl
theorem gtup_t : dgTup n gs (.d (.tuple ds)) ρ cs RG = (ds.length = n ∧ gs (ds.map S.d) ρ cs RG) := rfl
theorem eqk_i : eqOk (.int i) (.int j) = True := rfl
theorem eqk_b : eqOk (.bool b) (.bool c) = True := rfl
theorem eqk_s {w : Str} : eqOk (.str z) (.str w) = True := rfl
theorem eqk_t : eqOk (.tuple ds) (.tuple es) = (SeqAt.shaped (.tuple ds) = true ∧ SeqAt.shaped (.tuple es) = true) := rfl
theorem eqk_l : eqOk (.list ds) (.list es) = (SeqAt.shaped (.list ds) = true ∧ SeqAt.shaped (.list es) = true) := rfl
theorem len_l : cLen [.d (.list ds)] cs R = R (si (ds.length : Int)) cs := rfl
theorem len_t : cLen [.d (.tuple ds)] cs R = R (si (ds.length : Int)) cs := rfl
theorem len_s : cLen [.d (.str z)] cs R = (z.length ≤ sizeLine ∧ R (si (z.length : Int)) cs) := rfl
theorem len_r : cLen [.ref m] cs R = ∃ xs, getC cs m = some xs ∧ R (si (xs.length : Int)) cs := rfl
theorem int_i : cInt [.d (.int i)] cs R = R (si i) cs := rfl
theorem int_b : cInt [.d (.bool b)] cs R = R (si (if b then 1 else 0)) cs := rfl
theorem sum_l : cSum [.d (.list ds)] cs R = ∃ ns, intsOf ds = some ns ∧ R (si ns.sum) cs := rfl
theorem sum_r : cSum [.ref m] cs R = ∃ xs ds ns, getC cs m = some xs ∧ datas xs = some ds ∧ intsOf ds = some ns ∧ R (si ns.sum) cs := rfl
theorem tup_l : cTup [.d (.list ds)] cs R = R (.d (.tuple ds)) cs := rfl
theorem tup_t : cTup [.d (.tuple ds)] cs R = R (.d (.tuple ds)) cs := rfl
theorem tup_r : cTup [.ref m] cs R = ∃ xs ds, getC cs m = some xs ∧ datas xs = some ds ∧ R (.d (.tuple ds)) cs := rfl
theorem lis_l : cList [.d (.list ds)] cs R = R (.d (.list ds)) cs := rfl
theorem lis_t : cList [.d (.tuple ds)] cs R = R (.d (.list ds)) cs := rfl
theorem lis_r : cList [.ref m] cs R = ∃ xs ds, getC cs m = some xs ∧ datas xs = some ds ∧ R (.d (.list ds)) cs := rfl
theorem lim_l : cListM [.d (.list ds)] cs R = R (.ref cs.length) (cs ++ [some (ds.map S.d)]) := rfl
theorem lim_t : cListM [.d (.tuple ds)] cs R = R (.ref cs.length) (cs ++ [some (ds.map S.d)]) := rfl
theorem lim_r : cListM [.ref m] cs R = ∃ xs, getC cs m = some xs ∧ R (.ref cs.length) (cs ++ [some xs]) := rfl
theorem zip_t : dZipR (.d (.tuple ds)) (.d (.tuple es)) cs RI = RI ⟨zipD ds es, okT⟩ cs := rfl
theorem zip_l : dZipR (.d (.list ds)) (.d (.list es)) cs RI = RI ⟨zipD ds es, okT⟩ cs := rfl
theorem sl_l {lo hi : Option Int} : dSlR (.d (.list ds)) lo hi cs R = R (.d (.list (cutD ds lo hi))) cs := rfl
theorem sl_t {lo hi : Option Int} : dSlR (.d (.tuple ds)) lo hi cs R = R (.d (.tuple (cutD ds lo hi))) cs := rfl
theorem sl_r {lo hi : Option Int} : dSlR (.ref m) lo hi cs R = ∃ ds, getC cs m = some (ds.map S.d) ∧ R (.d (.list (cutD ds lo hi))) cs := rfl
end
end FL

set_option Elab.async false
set_option linter.all false
set_option maxRecDepth 100000
set_option maxHeartbeats 1000000
namespace FR
open PySem L2 FL
/-! ratios as the program writes them: pairs in lowest terms -/
def B (n : Nat) (i : Int) : Prop := i.natAbs < 2 ^ n
def RB (n : Nat) (r : Rat) : Prop := r.num.natAbs < 2 ^ n ∧ r.den < 2 ^ n
def encR (r : Rat) : PyData := .tuple [.int r.num, .int (r.den : Int)]
abbrev sr (r : Rat) : S := .d (encR r)
theorem two_le {a b : Nat} (h : a ≤ b) : (2 : Nat) ^ a ≤ 2 ^ b := Nat.pow_le_pow_right (by decide) h
theorem B.mono {n m : Nat} {i : Int} (h : B n i) (hm : n ≤ m) : B m i := Nat.lt_of_lt_of_le h (two_le hm)
theorem RB.mono {n m : Nat} {r : Rat} (h : RB n r) (hm : n ≤ m) : RB m r := ⟨Nat.lt_of_lt_of_le h.1 (two_le hm), Nat.lt_of_lt_of_le h.2 (two_le hm)⟩
theorem B.mul {n m : Nat} {i j : Int} (h : B n i) (h' : B m j) : B (n + m) (i * j) := by
  unfold B at *
  rw [Int.natAbs_mul, Nat.pow_add]
  exact Nat.mul_lt_mul'' h h'
theorem B.add {n m : Nat} {i j : Int} (h : B n i) (h' : B m j) : B (max n m + 1) (i + j) := by
  unfold B at *
  have a := Int.natAbs_add_le i j
  have h1 := Nat.lt_of_lt_of_le h (two_le (Nat.le_max_left n m))
  have h2 := Nat.lt_of_lt_of_le h' (two_le (Nat.le_max_right n m))
  rw [Nat.pow_succ]
  omega
theorem B.neg {n : Nat} {i : Int} (h : B n i) : B n (-i) := by unfold B at *; rw [Int.natAbs_neg]; exact h
theorem B.sub {n m : Nat} {i j : Int} (h : B n i) (h' : B m j) : B (max n m + 1) (i - j) := by rw [Int.sub_eq_add_neg]; exact h.add h'.neg
theorem B.cm {n m : Nat} {i j : Int} (h : B n i) (h' : B m j) (hn : 0 < n := by decide) (hm : 0 < m := by decide) (hs : n + m ≤ 1000000 := by decide) : CMulW i j := wide_mul h h' hn hm hs
theorem RB.n {n : Nat} {r : Rat} (h : RB n r) : B n r.num := h.1
theorem RB.d {n : Nat} {r : Rat} (h : RB n r) : B n (r.den : Int) := by unfold B; simpa using h.2
theorem den_pos (r : Rat) : (0 : Int) < r.den := by have := r.den_nz; omega
/-- what ratio(p, q) reckons -/
theorem gcd_ne {p q : Int} (h : q ≠ 0) : (0 : Int) < (Int.gcd p q : Nat) := by
  have : Int.gcd p q ≠ 0 := fun e => h (Int.gcd_eq_zero_iff.mp e).2
  omega
theorem gcd_bound {p q : Int} {n : Nat} (h : q ≠ 0) (hb : B n q) : B n (Int.gcd p q : Nat) := by
  unfold B at *
  have h1 : Int.gcd p q ≤ q.natAbs := Nat.le_of_dvd (by omega) (Nat.gcd_dvd_right _ _)
  simp only [Int.natAbs_natCast]
  omega
theorem num_is {p q : Int} (h : 0 < q) : p / (Int.gcd p q : Nat) = (Rat.divInt p q).num := by
  rw [Rat.num_divInt, Int.sign_eq_one_of_pos h, Int.one_mul, Int.gcd_comm]
theorem den_is {p q : Int} (h : 0 < q) : q / (Int.gcd p q : Nat) = ((Rat.divInt p q).den : Int) := by
  rw [Rat.den_divInt, if_neg (by omega), Int.gcd_comm]
  have : q = (q.natAbs : Int) := by omega
  rw [Int.natCast_ediv]
  rw [← this]
theorem divInt_flip (p q : Int) : Rat.divInt (-p) (-q) = Rat.divInt p q := Rat.neg_divInt_neg p q
theorem divInt_b {p q : Int} {n : Nat} (h : q ≠ 0) (hp : B n p) (hq : B n q) : RB n (Rat.divInt p q) := by
  have main : ∀ p q : Int, 0 < q → B n p → B n q → RB n (Rat.divInt p q) := fun p q h hp hq => by
    constructor
    · rw [← num_is h]
      exact Nat.lt_of_le_of_lt (Int.natAbs_ediv_le_natAbs _ _) hp
    · have e := den_is (p := p) h
      have : ((Rat.divInt p q).den : Int).natAbs ≤ q.natAbs := by rw [← e]; exact Int.natAbs_ediv_le_natAbs _ _
      have hq' : q.natAbs < 2 ^ n := hq
      simp only [Int.natAbs_natCast] at this
      omega
  by_cases h0 : 0 < q
  · exact main p q h0 hp hq
  · rw [← divInt_flip]
    exact main _ _ (by omega) hp.neg hq.neg
theorem rat_eta (r : Rat) : Rat.divInt r.num r.den = r := Rat.num_divInt_den r
theorem add_is (r t : Rat) : r + t = Rat.divInt (r.num * t.den + t.num * r.den) (r.den * t.den) := by
  conv => lhs; rw [← rat_eta r, ← rat_eta t]
  exact Rat.divInt_add_divInt _ _ (by have := den_pos r; omega) (by have := den_pos t; omega)
theorem mul_is (r t : Rat) : r * t = Rat.divInt (r.num * t.num) (r.den * t.den) := by
  conv => lhs; rw [← rat_eta r, ← rat_eta t]
  exact Rat.divInt_mul_divInt _ _
theorem div_is (r t : Rat) : r / t = Rat.divInt (r.num * t.den) (r.den * t.num) := by
  rw [Rat.div_def, Rat.inv_def]
  conv => lhs; rw [← rat_eta r]
  exact Rat.divInt_mul_divInt _ _
theorem num_ne {t : Rat} (h : t ≠ 0) : t.num ≠ 0 := fun e => h (Rat.num_eq_zero.mp e)
theorem den_ne (t : Rat) : (t.den : Int) ≠ 0 := by have := den_pos t; omega
theorem mul_ne {i j : Int} (h : i ≠ 0) (h' : j ≠ 0) : i * j ≠ 0 := fun e => (Int.mul_eq_zero.mp e).elim h h'
theorem RB.mul {n m : Nat} {r t : Rat} (h : RB n r) (h' : RB m t) : RB (n + m) (r * t) := by
  rw [mul_is]; exact divInt_b (mul_ne (den_ne r) (den_ne t)) (h.n.mul h'.n) (h.d.mul h'.d)
theorem RB.add {n m : Nat} {r t : Rat} (h : RB n r) (h' : RB m t) : RB (n + m + 1) (r + t) := by
  rw [add_is]; exact divInt_b (mul_ne (den_ne r) (den_ne t)) (((h.n.mul h'.d).add (h'.n.mul h.d)).mono (by omega)) ((h.d.mul h'.d).mono (by omega))
theorem RB.neg {n : Nat} {r : Rat} (h : RB n r) : RB n (-r) := ⟨by rw [Rat.neg_num, Int.natAbs_neg]; exact h.1, h.2⟩
theorem RB.sub {n m : Nat} {r t : Rat} (h : RB n r) (h' : RB m t) : RB (n + m + 1) (r - t) := by rw [Rat.sub_eq_add_neg]; exact h.add h'.neg
theorem RB.div {n m : Nat} {r t : Rat} (h : RB n r) (h' : RB m t) (ht : t ≠ 0) : RB (n + m) (r / t) := by
  rw [div_is]; exact divInt_b (mul_ne (den_ne r) (num_ne ht)) (h.n.mul h'.d) (h.d.mul h'.n)
def cmpR (r t : Rat) : Int := if r < t then -1 else if t < r then 1 else 0
theorem enc_inj {r t : Rat} (hn : r.num = t.num) (hd : (r.den : Int) = t.den) : r = t := Rat.ext hn (by omega)
theorem eqv_enc (r t : Rat) : PyData.eqv (encR r) (encR t) = decide (r = t) := by
  unfold encR
  rw [eqv_tt, eqvA_c, eqvA_c, eqvA_n, eqv_ii, eqv_ii, Bool.and_true]
  by_cases h : r = t
  · subst h; simp
  · rw [decide_eq_false h]
    by_cases h1 : r.num = t.num
    · have h2 : ¬ (r.den : Int) = t.den := fun h2 => h (enc_inj h1 h2)
      simp [h1]
      omega
    · simp [h1]
/-- the greatest divisor's turn -/
theorem gcd_turn (p q : Int) : Int.gcd q (p % q) = Int.gcd p q := by
  rw [Int.gcd_comm p q, Int.emod_def, Int.mul_comm]
  exact Int.gcd_sub_mul_right_right q p (p / q)
theorem cdiv_ok {j : Int} {n : Nat} (i : Int) (h : 0 < j) (hb : B n j) (h0 : 0 < n := by decide) (h9 : n ≤ 9000 := by decide) : CDivW i j := wide_div h hb h0 h9
theorem B.abs {n : Nat} {p : Int} (h : B n p) : B n (p.natAbs : Int) := by
  unfold B at *
  rw [Int.natAbs_natCast]
  exact h
theorem two_b {x y : Int} {n : Nat} (hx : 0 ≤ x) (hy : 0 ≤ y) (h1 : B n x) (h2 : B n y) : x * y < 2 ^ (n + n) := by
  have h := h1.mul h2
  unfold B at h
  have e : ((x * y).natAbs : Int) = x * y := Int.natAbs_of_nonneg (Int.mul_nonneg hx hy)
  have : ((x * y).natAbs : Int) < ((2 ^ (n + n) : Nat) : Int) := Int.ofNat_lt.mpr h
  rw [e, Int.natCast_pow] at this
  exact this
theorem B.le {n : Nat} {x y : Int} (hy : B n y) (h0 : 0 ≤ x) (h : x ≤ y) : B n x := by
  unfold B at *
  omega
theorem enc_eq {r t : Rat} : (encR r = encR t) = (r = t) := by
  refine propext ⟨fun h => ?_, fun h => by rw [h]⟩
  unfold encR at h
  simp only [PyData.tuple.injEq, List.cons.injEq, PyData.int.injEq, and_true] at h
  exact enc_inj h.1 h.2
def dOk : Nat → PyData → Bool
  | 0, _ => false
  | n + 1, d => match d with
    | .list ds => ds.all (dOk n) && decide (ds.length ≤ 1000000)
    | .tuple ds => ds.all (dOk n) && decide (ds.length ≤ 1000000)
    | .dict _ => false
    | _ => true
theorem dOk_enc (n : Nat) (r : Rat) : dOk (n + 2) (encR r) = true := by simp [dOk, encR]
theorem dOk_int (n : Nat) (i : Int) : dOk (n + 1) (.int i) = true := rfl
theorem shaped_enc (r : Rat) : SeqAt.shaped (encR r) = true := by
  unfold encR SeqAt.shaped
  simp [PyData.canLay0, PyData.canLayAll0, PyData.depth, PyData.depthAll]
theorem ixk_enc0 {r : Rat} {cs : Sto} {R : RK} : ixkR 0 (.d (encR r)) cs R = R (si r.num) cs := propext ⟨fun ⟨_, e, q⟩ => by cases e; exact q, fun q => ⟨_, rfl, q⟩⟩
theorem ixk_enc1 {r : Rat} {cs : Sto} {R : RK} : ixkR 1 (.d (encR r)) cs R = R (si (r.den : Int)) cs := propext ⟨fun ⟨_, e, q⟩ => by cases e; exact q, fun q => ⟨_, rfl, q⟩⟩
end FR

set_option Elab.async false
set_option linter.all false
set_option maxRecDepth 100000
namespace K02
open PySem L2 FL FR
/-! what each def of the law does, over data -/
abbrev c_NOTHING : PyData := .tuple [.int 0, .int 1]
def dot (ws ts : List Rat) : Rat := (List.zipWith (· * ·) ws ts).foldl (· + ·) 0
def T_greatest_divisor : DSp := fun xs cs R => ∃ p q : Int, xs = [si p, si q] ∧ 0 ≤ q ∧ R (si (Int.gcd p q : Nat)) cs
def T_ratio : DSp := fun xs cs R => ∃ p q : Int, xs = [si p, si q] ∧ q ≠ 0 ∧ B 8000 q ∧ R (sr (Rat.divInt p q)) cs
def T_added : DSp := fun xs cs R => ∃ r t : Rat, xs = [sr r, sr t] ∧ RB 3000 r ∧ RB 3000 t ∧ R (sr (r + t)) cs
def T_opposite : DSp := fun xs cs R => ∃ r : Rat, xs = [sr r] ∧ R (sr (-r)) cs
def T_less : DSp := fun xs cs R => ∃ r t : Rat, xs = [sr r, sr t] ∧ RB 3000 r ∧ RB 3000 t ∧ R (sr (r - t)) cs
def T_times : DSp := fun xs cs R => ∃ r t : Rat, xs = [sr r, sr t] ∧ RB 3000 r ∧ RB 3000 t ∧ R (sr (r * t)) cs
def T_over : DSp := fun xs cs R => ∃ r t : Rat, xs = [sr r, sr t] ∧ RB 3000 r ∧ RB 3000 t ∧ t ≠ 0 ∧ R (sr (r / t)) cs
def T_compare : DSp := fun xs cs R => ∃ r t : Rat, xs = [sr r, sr t] ∧ RB 3000 r ∧ RB 3000 t ∧ R (si (cmpR r t)) cs
def T_blended : DSp := fun xs cs R => ∃ ws ts : List Rat, xs = [.d (.tuple (ws.map encR)), .d (.tuple (ts.map encR))] ∧ (∀ w ∈ ws, RB 10 w) ∧ (∀ t ∈ ts, RB 150 t) ∧ ws.length ≤ 17 ∧ R (sr (dot ws ts)) cs
def low (p q : Int) : Bool := decide (1 ≤ q) && decide (Int.gcd p q = 1)
def T_is_ratio : DSp := fun xs cs R => ∃ p q : Int, xs = [.d (.tuple [.int p, .int q])] ∧ R (sb (low p q)) cs
/-- what was drawn -/
structure Deal (row : List Int) (total pos : Int) : Prop where
  len : row.length ≤ 2520
  lo : ∀ x ∈ row, 0 ≤ x
  t0 : 0 ≤ total
  t1 : total < 2 ^ 40
  p0 : 0 ≤ pos
  p1 : pos < 2 ^ 40
def DS (row : List Int) (total pos : Int) (gs : Sto) : Sto := none :: some [si pos] :: some [.d (.list (row.map PyData.int)), .ref 1, si total] :: gs
def T__law_deal : DSp := fun xs cs R => cs = [] ∧ ∃ ns : List Int, xs = [.d (.list (ns.map PyData.int))] ∧ ns.length ≤ 63 ∧ ∀ row total, Deal row total 0 → R (.ref 2) (DS row total 0 [])
def T__law_take : DSp := fun xs cs R => ∃ row total pos gs many, xs = [.ref 2, si many] ∧ cs = DS row total pos gs ∧ Deal row total pos ∧ 0 < many ∧ ∀ v, 0 ≤ v → v < many → R (si v) (DS row total (pos + 1) gs)
def T__law_sameN (n : Nat) : DSp := fun xs cs R => ∃ d, xs = [.d d, .d d] ∧ dOk n d = true ∧ R (sb true) cs
abbrev T__law_same : DSp := T__law_sameN 3
def T__law_bool : DSp := fun xs cs R => ∃ b, xs = [sb b, sb b] ∧ R (sb true) cs
def T__law_ratio : DSp := fun xs cs R => ∃ p q : Int, xs = [si p, si q] ∧ q ≠ 0 ∧ B 8000 p ∧ B 8000 q ∧ R (sr (Rat.divInt p q)) cs
def T__law_plus : DSp := T_added
def T__law_mult : DSp := T_times
def T__law_minus : DSp := T_less
def T__law_over : DSp := T_over
def T__law_pick : DSp := fun xs cs R => ∃ row total pos gs ds, xs = [.ref 2, .d (.list ds)] ∧ cs = DS row total pos gs ∧ Deal row total pos ∧ 0 < ds.length ∧ ∀ d, d ∈ ds → R (.d d) (DS row total (pos + 1) gs)
def T__law_great : DSp := fun xs cs R => ∃ row total pos gs, ∃ many : Nat, xs = [.ref 2, si (many : Int)] ∧ cs = DS row total pos gs ∧ Deal row total pos ∧ many ≤ 20 ∧ pos < 2 ^ 39 + 1000 ∧ ∀ v, B (10 * many) v → 0 ≤ v → R (si v) (DS row total (pos + (many : Int)) gs)
def T__law_number : DSp := fun xs cs R => ∃ row total pos gs, xs = [.ref 2] ∧ cs = DS row total pos gs ∧ Deal row total pos ∧ pos < 2 ^ 39 ∧ ∀ v p, B 145 v → pos ≤ p → p ≤ pos + 20 → R (si v) (DS row total p gs)
def T__law_other : DSp := fun xs cs R => ∃ row total pos gs, xs = [.ref 2] ∧ cs = DS row total pos gs ∧ Deal row total pos ∧ pos < 2 ^ 39 ∧ ∀ v p, v ≠ 0 → B 145 v → pos ≤ p → p ≤ pos + 20 → R (si v) (DS row total p gs)
def T__law_order : DSp := T_compare
def T__law_two_right : DSp := fun xs cs R => ∃ r t : Rat, xs = [sr r, sr t] ∧ RB 2000 r ∧ RB 2000 t ∧ R (sb true) cs
def T__law_is_lowest : DSp := fun xs cs R => ∃ p q : Int, xs = [si p, si q] ∧ B 3000 p ∧ B 3000 q ∧ R (sb (low p q)) cs
def T__law_judged : DSp := fun xs cs R => ∃ p q b : Int, xs = [si p, si q, si b] ∧ B 145 p ∧ B 145 q ∧ B 145 b ∧ R (sb true) cs
def T__law_rows_right : DSp := fun xs cs R => ∃ row total pos, xs = [.ref 2] ∧ cs = DS row total pos [] ∧ Deal row total pos ∧ pos < 2 ^ 38 ∧ ∀ cs', R (sb true) cs'
def T_law : DSp := TLaw 63
end K02

set_option Elab.async false
set_option linter.all false
set_option maxRecDepth 100000
namespace K02
open PySem L2 FL FR
def rd_greatest_divisor_b1 : TSD := (dPar 0 1 (dCons (dVar 1) (dCons (dOp qMod (dVar 0) (dVar 1)) dNil)))
/-- slots of greatest_divisor: 0 p, 1 q -/
def rd_greatest_divisor : TSD := (dSeq (dWhile (dTestR (dOp qNe (dVar 1) (dC (.int 0))))
    rd_greatest_divisor_b1)
    (dRet (dCB cAbs (dCons (dVar 0) dNil))))
/-- slots of ratio: 0 p, 1 q, 2 shared -/
def rd_ratio : TSD := (dSeq (dIfS (dTestR (dOp qLt (dVar 1) (dC (.int 0))))
    (dSeq (dAsg (dUn qNeg (dVar 0)) (dgName 0))
    (dAsg (dUn qNeg (dVar 1)) (dgName 1)))
    dNext)
    (dSeq (dAsg (dCall 2 T_greatest_divisor (dCons (dVar 0) (dCons (dVar 1) dNil))) (dgName 2))
    (dRet (dTup (dCons (dOp qDiv (dVar 0) (dVar 2)) (dCons (dOp qDiv (dVar 1) (dVar 2)) dNil))))))
/-- slots of added: 0 s, 1 t -/
def rd_added : TSD := (dRet (dCall 2 T_ratio (dCons (dOp qAdd (dOp qMul (dIxK 0 (dVar 0)) (dIxK 1 (dVar 1))) (dOp qMul (dIxK 0 (dVar 1)) (dIxK 1 (dVar 0)))) (dCons (dOp qMul (dIxK 1 (dVar 0)) (dIxK 1 (dVar 1))) dNil))))
/-- slots of opposite: 0 t -/
def rd_opposite : TSD := (dRet (dTup (dCons (dUn qNeg (dIxK 0 (dVar 0))) (dCons (dIxK 1 (dVar 0)) dNil))))
/-- slots of less: 0 s, 1 t -/
def rd_less : TSD := (dRet (dCall 2 T_added (dCons (dVar 0) (dCons (dCall 1 T_opposite (dCons (dVar 1) dNil)) dNil))))
/-- slots of times: 0 s, 1 t -/
def rd_times : TSD := (dRet (dCall 2 T_ratio (dCons (dOp qMul (dIxK 0 (dVar 0)) (dIxK 0 (dVar 1))) (dCons (dOp qMul (dIxK 1 (dVar 0)) (dIxK 1 (dVar 1))) dNil))))
/-- slots of over: 0 s, 1 t -/
def rd_over : TSD := (dRet (dCall 2 T_ratio (dCons (dOp qMul (dIxK 0 (dVar 0)) (dIxK 1 (dVar 1))) (dCons (dOp qMul (dIxK 1 (dVar 0)) (dIxK 0 (dVar 1))) dNil))))
/-- slots of compare: 0 s, 1 t, 2 difference -/
def rd_compare : TSD := (dSeq (dAsg (dOp qSub (dOp qMul (dIxK 0 (dVar 0)) (dIxK 1 (dVar 1))) (dOp qMul (dIxK 0 (dVar 1)) (dIxK 1 (dVar 0)))) (dgName 2))
    (dSeq (dIfS (dTestR (dOp qLt (dVar 2) (dC (.int 0))))
    (dRet (dUn qNeg (dC (.int 1))))
    dNext)
    (dSeq (dIfS (dTestR (dOp qGt (dVar 2) (dC (.int 0))))
    (dRet (dC (.int 1)))
    dNext)
    (dRet (dC (.int 0))))))
def rd_blended_b1 : TSD := (dIfS (dAnd (dTestR (dOp qNe (dVar 3) (dC c_NOTHING))) (dTestR (dOp qNe (dVar 4) (dC c_NOTHING))))
    (dAsg (dCall 2 T_added (dCons (dVar 2) (dCons (dCall 2 T_times (dCons (dVar 3) (dCons (dVar 4) dNil))) dNil))) (dgName 2))
    dNext)
/-- slots of blended: 0 weights, 1 ratios, 2 total, 3 weight, 4 t -/
def rd_blended : TSD := (dSeq (dAsg (dC c_NOTHING) (dgName 2))
    (dSeq (dFor (dZip (dCons (dVar 0) (dCons (dVar 1) dNil))) (dgTup 2 (dgCons (dgName 3) (dgCons (dgName 4) dgNil)))
    rd_blended_b1)
    (dRet (dVar 2))))
/-- slots of is_ratio: 0 pair -/
def rd_is_ratio : TSD := (dRet (dAndV (dOp qGe (dIxK 1 (dVar 0)) (dC (.int 1))) (dOp qEq (dCall 2 T_greatest_divisor (dCons (dIxK 0 (dVar 0)) (dCons (dIxK 1 (dVar 0)) dNil))) (dC (.int 1)))))
def rd__law_deal_b1 : TSD := (dIfS (dTestR (dOp qGt (dVar 3) (dC (.int 0))))
    (dSeq (dDrop (dApp (dVar 1) (dOp qMod (dVar 3) (dC (.int 1009)))))
    (dAsg (dOp qDiv (dVar 3) (dC (.int 1009))) (dgName 3)))
    dNext)
def rd__law_deal_b2 : TSD := (dSeq (dAsg (dOp qMod (dOp qAdd (dOp qAdd (dOp qMul (dVar 3) (dC (.int 16807))) (dC (.int 12345))) (dVar 4)) (dC (.int 2147483647))) (dgName 3))
    (dDrop (dApp (dVar 1) (dOp qMod (dOp qDiv (dVar 3) (dC (.int 7))) (dC (.int 1009))))))
def rd__law_deal_b3 : TSD := (dSeq (dAsg (dCB cAbs (dCons (dCB cInt (dCons (dOp dIxR (dVar 0) (dVar 2)) dNil)) dNil)) (dgName 3))
    (dIfS (dTestR (dOp qGe (dVar 3) (dOp qPow (dC (.int 10)) (dC (.int 18)))))
    (dFor (dRg1 (dCons (dC (.int 40)) dNil)) (dgName 4)
    rd__law_deal_b1)
    (dSeq (dAsg (dOp qAdd (dOp qAdd (dOp qMul (dOp qMod (dVar 3) (dC (.int 2147483629))) (dC (.int 48271))) (dOp qMul (dVar 2) (dC (.int 69621)))) (dC (.int 11))) (dgName 3))
    (dFor (dRg1 (dCons (dC (.int 5)) dNil)) (dgName 4)
    rd__law_deal_b2))))
/-- slots of _law_deal: 0 script, 1 row, 2 k, 3 cell, 4 turn, 5 total -/
def rd__law_deal : TSD := (dSeq (dAsg (dLstM dNil) (dgName 1))
    (dSeq (dFor (dRg1 (dCons (dCB cMin2 (dCons (dCB cLen (dCons (dVar 0) dNil)) (dCons (dC (.int 63)) dNil))) dNil)) (dgName 2)
    rd__law_deal_b3)
    (dSeq (dAsg (dOp qAdd (dCB cSum (dCons (dVar 1) dNil)) (dCB cLen (dCons (dVar 0) dNil))) (dgName 5))
    (dRet (dLstM (dCons (dVarF 1) (dCons (dLstM (dCons (dC (.int 0)) dNil)) (dCons (dVar 5) dNil))))))))
/-- slots of _law_take: 0 deal, 1 many, 2 at -/
def rd__law_take : TSD := (dSeq (dAsg (dIxK 0 (dIxK 1 (dVar 0))) (dgName 2))
    (dSeq (dAsg (dOp qAdd (dVar 2) (dC (.int 1))) (dgSub (dIxK 1 (dVar 0)) (dC (.int 0))))
    (dSeq (dIfS (dTestR (dOp qLt (dVar 2) (dCB cLen (dCons (dIxK 0 (dVar 0)) dNil))))
    (dRet (dOp qMod (dOp dIxR (dIxK 0 (dVar 0)) (dVar 2)) (dVar 1)))
    dNext)
    (dRet (dOp qMod (dOp qDiv (dOp qAdd (dOp qAdd (dOp qMul (dVar 2) (dC (.int 7919))) (dOp qMul (dIxK 2 (dVar 0)) (dC (.int 31)))) (dOp qMul (dOp qMul (dVar 2) (dVar 2)) (dC (.int 17)))) (dC (.int 3))) (dVar 1))))))
def rd__law_same_b1 (Tself : DSp) : TSD := (dIfS (dNot (dTru (dCall 2 Tself (dCons (dOp dIxR (dVar 0) (dVar 2)) (dCons (dOp dIxR (dVar 1) (dVar 2)) dNil)))))
    (dRet (dC (.bool false)))
    dNext)
/-- slots of _law_same: 0 a, 1 b, 2 k -/
def rd__law_same (Tself : DSp) : TSD := (dSeq (dIfS (dOr (dTru (dIsi .tuple (dVar 1))) (dTru (dIsi .list (dVar 1))))
    (dSeq (dIfS (dOr (dAnd (dTru (dIsi .tuple (dVar 1))) (dNot (dTru (dIsi .tuple (dVar 0))))) (dAnd (dTru (dIsi .list (dVar 1))) (dNot (dTru (dIsi .list (dVar 0))))))
    (dRet (dC (.bool false)))
    dNext)
    (dSeq (dIfS (dTestR (dOp qNe (dCB cLen (dCons (dVar 0) dNil)) (dCB cLen (dCons (dVar 1) dNil))))
    (dRet (dC (.bool false)))
    dNext)
    (dSeq (dFor (dRg1 (dCons (dCB cLen (dCons (dVar 1) dNil)) dNil)) (dgName 2)
    (rd__law_same_b1 Tself))
    (dRet (dC (.bool true))))))
    dNext)
    (dSeq (dIfS (dOr (dTru (dIsi .bool (dVar 0))) (dTru (dIsi .bool (dVar 1))))
    (dRet (dAndV (dIsi .bool (dVar 0)) (dAndV (dIsi .bool (dVar 1)) (dOp qEq (dVar 0) (dVar 1)))))
    dNext)
    (dSeq (dIfS (dTru (dIsi .int (dVar 1)))
    (dRet (dAndV (dIsi .int (dVar 0)) (dOp qEq (dVar 0) (dVar 1))))
    dNext)
    (dSeq (dIfS (dTru (dIsi .str (dVar 1)))
    (dRet (dAndV (dIsi .str (dVar 0)) (dOp qEq (dVar 0) (dVar 1))))
    dNext)
    (dRet (dAndV (dOp qIsN (dVar 0) (dC .none)) (dOp qIsN (dVar 1) (dC .none))))))))
/-- slots of _law_bool: 0 answer, 1 due -/
def rd__law_bool : TSD := (dRet (dAndV (dIsi .bool (dVar 0)) (dOp qEq (dVar 0) (dVar 1))))
def rd__law_ratio_b1 : TSD := (dSeq (dIfS (dTestR (dOp qEq (dVar 2) (dC (.int 0))))
    dBreak
    dNext)
    (dPar 2 3 (dCons (dOp qMod (dVar 3) (dVar 2)) (dCons (dVar 2) dNil))))
/-- slots of _law_ratio: 0 p, 1 q, 2 a, 3 b, 4 turn -/
def rd__law_ratio : TSD := (dSeq (dIfS (dTestR (dOp qLt (dVar 1) (dC (.int 0))))
    (dSeq (dAsg (dUn qNeg (dVar 0)) (dgName 0))
    (dAsg (dUn qNeg (dVar 1)) (dgName 1)))
    dNext)
    (dSeq (dAsg (dCB cAbs (dCons (dVar 0) dNil)) (dgName 2))
    (dSeq (dAsg (dVar 1) (dgName 3))
    (dSeq (dFor (dRg1 (dCons (dC (.int 100000)) dNil)) (dgName 4)
    rd__law_ratio_b1)
    (dRet (dTup (dCons (dOp qDiv (dVar 0) (dVar 3)) (dCons (dOp qDiv (dVar 1) (dVar 3)) dNil))))))))
/-- slots of _law_plus: 0 s, 1 t -/
def rd__law_plus : TSD := (dRet (dCall 2 T__law_ratio (dCons (dOp qAdd (dOp qMul (dIxK 0 (dVar 0)) (dIxK 1 (dVar 1))) (dOp qMul (dIxK 0 (dVar 1)) (dIxK 1 (dVar 0)))) (dCons (dOp qMul (dIxK 1 (dVar 0)) (dIxK 1 (dVar 1))) dNil))))
/-- slots of _law_mult: 0 s, 1 t -/
def rd__law_mult : TSD := (dRet (dCall 2 T__law_ratio (dCons (dOp qMul (dIxK 0 (dVar 0)) (dIxK 0 (dVar 1))) (dCons (dOp qMul (dIxK 1 (dVar 0)) (dIxK 1 (dVar 1))) dNil))))
/-- slots of _law_minus: 0 s, 1 t -/
def rd__law_minus : TSD := (dRet (dCall 2 T__law_plus (dCons (dVar 0) (dCons (dTup (dCons (dUn qNeg (dIxK 0 (dVar 1))) (dCons (dIxK 1 (dVar 1)) dNil))) dNil))))
/-- slots of _law_over: 0 s, 1 t -/
def rd__law_over : TSD := (dRet (dCall 2 T__law_ratio (dCons (dOp qMul (dIxK 0 (dVar 0)) (dIxK 1 (dVar 1))) (dCons (dOp qMul (dIxK 1 (dVar 0)) (dIxK 0 (dVar 1))) dNil))))
/-- slots of _law_pick: 0 deal, 1 things -/
def rd__law_pick : TSD := (dRet (dOp dIxR (dVar 1) (dCall 2 T__law_take (dCons (dVar 0) (dCons (dCB cLen (dCons (dVar 1) dNil)) dNil)))))
def rd__law_great_b1 : TSD := (dAsg (dOp qAdd (dOp qMul (dVar 2) (dC (.int 1009))) (dCall 2 T__law_take (dCons (dVar 0) (dCons (dC (.int 1009)) dNil)))) (dgName 2))
/-- slots of _law_great: 0 deal, 1 many, 2 found, 3 turn -/
def rd__law_great : TSD := (dSeq (dAsg (dC (.int 0)) (dgName 2))
    (dSeq (dFor (dRg1 (dCons (dVar 1) dNil)) (dgName 3)
    rd__law_great_b1)
    (dRet (dVar 2))))
/-- slots of _law_number: 0 deal, 1 sort, 2 size -/
def rd__law_number : TSD := (dSeq (dAsg (dCall 2 T__law_take (dCons (dVar 0) (dCons (dC (.int 6)) dNil))) (dgName 1))
    (dSeq (dIfS (dTestR (dOp qEq (dVar 1) (dC (.int 0))))
    (dAsg (dCall 2 T__law_pick (dCons (dVar 0) (dCons (dLst (dCons (dC (.int 0)) (dCons (dC (.int 1)) (dCons (dC (.int 2)) (dCons (dOp qSub (dOp qPow (dC (.int 10)) (dC (.int 40))) (dC (.int 1))) (dCons (dOp qPow (dC (.int 10)) (dC (.int 40))) (dCons (dOp qAdd (dOp qPow (dC (.int 2)) (dC (.int 53))) (dC (.int 1))) dNil))))))) dNil))) (dgName 2))
    (dIfS (dTestR (dOp qEq (dVar 1) (dC (.int 1))))
    (dAsg (dCall 2 T__law_great (dCons (dVar 0) (dCons (dC (.int 14)) dNil))) (dgName 2))
    (dIfS (dTestR (dOp qEq (dVar 1) (dC (.int 2))))
    (dAsg (dCall 2 T__law_great (dCons (dVar 0) (dCons (dC (.int 3)) dNil))) (dgName 2))
    (dAsg (dCall 2 T__law_take (dCons (dVar 0) (dCons (dC (.int 40)) dNil))) (dgName 2)))))
    (dRet (dOp qMul (dVar 2) (dOp qSub (dC (.int 1)) (dOp qMul (dC (.int 2)) (dCall 2 T__law_take (dCons (dVar 0) (dCons (dC (.int 2)) dNil)))))))))
/-- slots of _law_other: 0 deal, 1 found -/
def rd__law_other : TSD := (dSeq (dAsg (dCall 1 T__law_number (dCons (dVar 0) dNil)) (dgName 1))
    (dRet (dIf (dTestR (dOp qNe (dVar 1) (dC (.int 0)))) (dVar 1) (dC (.int 1)))))
/-- slots of _law_order: 0 s, 1 t, 2 gap -/
def rd__law_order : TSD := (dSeq (dAsg (dOp qSub (dOp qMul (dIxK 0 (dVar 0)) (dIxK 1 (dVar 1))) (dOp qMul (dIxK 0 (dVar 1)) (dIxK 1 (dVar 0)))) (dgName 2))
    (dRet (dOp qSub (dCB cInt (dCons (dOp qGt (dVar 2) (dC (.int 0))) dNil)) (dCB cInt (dCons (dOp qLt (dVar 2) (dC (.int 0))) dNil)))))
/-- slots of _law_two_right: 0 s, 1 t -/
def rd__law_two_right : TSD := (dSeq (dIfS (dOr (dNot (dTru (dCall 2 T__law_same (dCons (dCall 2 T_added (dCons (dVar 0) (dCons (dVar 1) dNil))) (dCons (dCall 2 T__law_plus (dCons (dVar 0) (dCons (dVar 1) dNil))) dNil))))) (dNot (dTru (dCall 2 T__law_same (dCons (dCall 2 T_less (dCons (dVar 0) (dCons (dVar 1) dNil))) (dCons (dCall 2 T__law_minus (dCons (dVar 0) (dCons (dVar 1) dNil))) dNil))))))
    (dRet (dC (.bool false)))
    dNext)
    (dSeq (dIfS (dOr (dNot (dTru (dCall 2 T__law_same (dCons (dCall 2 T_times (dCons (dVar 0) (dCons (dVar 1) dNil))) (dCons (dCall 2 T__law_mult (dCons (dVar 0) (dCons (dVar 1) dNil))) dNil))))) (dNot (dTru (dCall 2 T__law_same (dCons (dCall 1 T_opposite (dCons (dVar 0) dNil)) (dCons (dTup (dCons (dUn qNeg (dIxK 0 (dVar 0))) (dCons (dIxK 1 (dVar 0)) dNil))) dNil))))))
    (dRet (dC (.bool false)))
    dNext)
    (dSeq (dIfS (dAnd (dTestR (dOp qNe (dIxK 0 (dVar 1)) (dC (.int 0)))) (dNot (dTru (dCall 2 T__law_same (dCons (dCall 2 T_over (dCons (dVar 0) (dCons (dVar 1) dNil))) (dCons (dCall 2 T__law_over (dCons (dVar 0) (dCons (dVar 1) dNil))) dNil))))))
    (dRet (dC (.bool false)))
    dNext)
    (dRet (dAndV (dCall 2 T__law_same (dCons (dCall 2 T_compare (dCons (dVar 0) (dCons (dVar 1) dNil))) (dCons (dCall 2 T__law_order (dCons (dVar 0) (dCons (dVar 1) dNil))) dNil))) (dCall 2 T__law_same (dCons (dCall 2 T_compare (dCons (dVar 0) (dCons (dVar 0) dNil))) (dCons (dC (.int 0)) dNil))))))))
/-- slots of _law_is_lowest: 0 p, 1 q -/
def rd__law_is_lowest : TSD := (dSeq (dIfS (dTestR (dOp qLt (dVar 1) (dC (.int 1))))
    (dRet (dC (.bool false)))
    dNext)
    (dRet (dOp qEq (dCall 2 T__law_ratio (dCons (dVar 0) (dCons (dVar 1) dNil))) (dTup (dCons (dVar 0) (dCons (dVar 1) dNil))))))
def rd__law_judged_b1 : TSD := (dIfS (dNot (dTru (dCall 2 T__law_bool (dCons (dCall 1 T_is_ratio (dCons (dVar 4) dNil)) (dCons (dCall 2 T__law_is_lowest (dCons (dIxK 0 (dVar 4)) (dCons (dIxK 1 (dVar 4)) dNil))) dNil)))))
    (dRet (dC (.bool false)))
    dNext)
/-- slots of _law_judged: 0 p, 1 q, 2 by, 3 pairs, 4 one -/
def rd__law_judged : TSD := (dSeq (dAsg (dLst (dCons (dTup (dCons (dVar 0) (dCons (dVar 1) dNil))) (dCons (dTup (dCons (dOp qMul (dVar 0) (dVar 2)) (dCons (dOp qMul (dVar 1) (dVar 2)) dNil))) (dCons (dTup (dCons (dVar 0) (dCons (dUn qNeg (dVar 1)) dNil))) (dCons (dTup (dCons (dOp qMul (dVar 0) (dVar 2)) (dCons (dVar 1) dNil))) (dCons (dTup (dCons (dVar 0) (dCons (dOp qMul (dVar 1) (dVar 2)) dNil))) (dCons (dTup (dCons (dC (.int 0)) (dCons (dCB cAbs (dCons (dVar 1) dNil)) dNil))) (dCons (dTup (dCons (dVar 0) (dCons (dC (.int 0)) dNil))) (dCons (dTup (dCons (dC (.int 0)) (dCons (dC (.int 1)) dNil))) (dCons (dTup (dCons (dVar 2) (dCons (dC (.int 1)) dNil))) (dCons (dTup (dCons (dC (.int 1)) (dCons (dVar 2) dNil))) (dCons (dTup (dCons (dC (.int 2)) (dCons (dC (.int 2)) dNil))) dNil)))))))))))) (dgName 3))
    (dSeq (dFor (dItems (dVar 3)) (dgName 4)
    rd__law_judged_b1)
    (dRet (dC (.bool true)))))
def rd__law_rows_right_e1 : TD := (dCall 2 T__law_ratio (dCons (dOp qSub (dCall 2 T__law_take (dCons (dVar 0) (dCons (dC (.int 9)) dNil))) (dC (.int 4))) (dCons (dOp qAdd (dC (.int 1)) (dCall 2 T__law_take (dCons (dVar 0) (dCons (dC (.int 5)) dNil)))) dNil)))
def rd__law_rows_right_e2 : TD := (dCall 2 T__law_ratio (dCons (dOp qSub (dCall 2 T__law_take (dCons (dVar 0) (dCons (dC (.int 13)) dNil))) (dC (.int 6))) (dCons (dOp qAdd (dC (.int 1)) (dCall 2 T__law_take (dCons (dVar 0) (dCons (dC (.int 7)) dNil)))) dNil)))
def rd__law_rows_right_b1 : TSD := (dAsg (dCall 2 T__law_plus (dCons (dVar 4) (dCons (dCall 2 T__law_mult (dCons (dOp dIxR (dVar 2) (dVar 5)) (dCons (dOp dIxR (dVar 3) (dVar 5)) dNil))) dNil))) (dgName 4))
/-- slots of _law_rows_right: 0 deal, 1 many, 2 weights, 3 things, 4 total, 5 k, 6 last -/
def rd__law_rows_right : TSD := (dSeq (dAsg (dCall 2 T__law_take (dCons (dVar 0) (dCons (dC (.int 17)) dNil))) (dgName 1))
    (dSeq (dAsg (dLcG (dRg1 (dCons (dVar 1) dNil)) (dgName 5) dYes rd__law_rows_right_e1 [5] kMut) (dgName 2))
    (dSeq (dAsg (dLcG (dRg1 (dCons (dVar 1) dNil)) (dgName 5) dYes rd__law_rows_right_e2 [5] kMut) (dgName 3))
    (dSeq (dDrop (dApp (dVar 2) (dTup (dCons (dCall 2 T__law_take (dCons (dVar 0) (dCons (dC (.int 3)) dNil))) (dCons (dC (.int 1)) dNil)))))
    (dSeq (dDrop (dApp (dVar 3) (dCall 2 T__law_ratio (dCons (dCall 1 T__law_number (dCons (dVar 0) dNil)) (dCons (dCall 1 T__law_other (dCons (dVar 0) dNil)) dNil)))))
    (dSeq (dAsg (dTup (dCons (dC (.int 0)) (dCons (dC (.int 1)) dNil))) (dgName 4))
    (dSeq (dFor (dRg1 (dCons (dCB cLen (dCons (dVar 2) dNil)) dNil)) (dgName 5)
    rd__law_rows_right_b1)
    (dSeq (dAsg (dCall 2 T__law_mult (dCons (dOp dIxR (dVar 2) (dUn qNeg (dC (.int 1)))) (dCons (dOp dIxR (dVar 3) (dUn qNeg (dC (.int 1)))) dNil))) (dgName 6))
    (dSeq (dIfS (dOr (dNot (dTru (dCall 2 T__law_same (dCons (dCall 2 T_blended (dCons (dCB cTup (dCons (dVar 2) dNil)) (dCons (dCB cTup (dCons (dVar 3) dNil)) dNil))) (dCons (dVar 4) dNil))))) (dNot (dTru (dCall 2 T__law_same (dCons (dCall 2 T_blended (dCons (dTup dNil) (dCons (dTup dNil) dNil))) (dCons (dTup (dCons (dC (.int 0)) (dCons (dC (.int 1)) dNil))) dNil))))))
    (dRet (dC (.bool false)))
    dNext)
    (dRet (dCall 2 T__law_same (dCons (dCall 2 T_blended (dCons (dCB cTup (dCons (dSl (dVar 2) dNoPart (dPart (dUn qNeg (dC (.int 1))))) dNil)) (dCons (dCB cTup (dCons (dSl (dVar 3) dNoPart (dPart (dUn qNeg (dC (.int 1))))) dNil)) dNil))) (dCons (dCall 2 T__law_minus (dCons (dVar 4) (dCons (dVar 6) dNil))) dNil)))))))))))))
def rd_law_b1 : TSD := (dSeq (dAsg (dCall 1 T__law_number (dCons (dVar 1) dNil)) (dgName 3))
    (dSeq (dAsg (dCall 1 T__law_other (dCons (dVar 1) dNil)) (dgName 4))
    (dSeq (dAsg (dCall 1 T__law_other (dCons (dVar 1) dNil)) (dgName 5))
    (dSeq (dAsg (dCall 2 T__law_ratio (dCons (dVar 3) (dCons (dVar 4) dNil))) (dgName 6))
    (dSeq (dAsg (dCall 2 T__law_ratio (dCons (dCall 1 T__law_number (dCons (dVar 1) dNil)) (dCons (dCall 1 T__law_other (dCons (dVar 1) dNil)) dNil))) (dgName 7))
    (dSeq (dAsg (dCall 2 T__law_plus (dCons (dVar 6) (dCons (dTup (dCons (dC (.int 1)) (dCons (dOp qPow (dC (.int 10)) (dC (.int 45))) dNil))) dNil))) (dgName 8))
    (dSeq (dIfS (dOr (dNot (dTru (dCall 2 T__law_same (dCons (dCall 2 T_ratio (dCons (dOp qMul (dVar 3) (dVar 5)) (dCons (dOp qMul (dVar 4) (dVar 5)) dNil))) (dCons (dVar 6) dNil))))) (dNot (dTru (dCall 2 T__law_same (dCons (dCall 2 T_ratio (dCons (dUn qNeg (dVar 3)) (dCons (dVar 4) dNil))) (dCons (dTup (dCons (dUn qNeg (dIxK 0 (dVar 6))) (dCons (dIxK 1 (dVar 6)) dNil))) dNil))))))
    (dRet (dC (.bool false)))
    dNext)
    (dSeq (dIfS (dOr (dNot (dTru (dCall 2 T__law_two_right (dCons (dVar 6) (dCons (dVar 7) dNil))))) (dOr (dNot (dTru (dCall 2 T__law_two_right (dCons (dVar 7) (dCons (dVar 6) dNil))))) (dOr (dNot (dTru (dCall 2 T__law_two_right (dCons (dVar 6) (dCons (dVar 8) dNil))))) (dNot (dTru (dCall 2 T__law_two_right (dCons (dVar 8) (dCons (dVar 6) dNil))))))))
    (dRet (dC (.bool false)))
    dNext)
    (dIfS (dNot (dTru (dCall 3 T__law_judged (dCons (dVar 3) (dCons (dVar 4) (dCons (dVar 5) dNil))))))
    (dRet (dC (.bool false)))
    dNext)))))))))
/-- slots of law: 0 script, 1 deal, 2 turn, 3 p, 4 q, 5 by, 6 s, 7 t, 8 near -/
def rd_law : TSD := (dSeq (dAsg (dCall 1 T__law_deal (dCons (dVar 0) dNil)) (dgName 1))
    (dSeq (dFor (dRg1 (dCons (dC (.int 4)) dNil)) (dgName 2)
    rd_law_b1)
    (dRet (dCall 1 T__law_rows_right (dCons (dVar 1) dNil)))))
end K02

set_option Elab.async false
set_option linter.all false
set_option maxRecDepth 100000
set_option maxHeartbeats 2000000
namespace K02
open PySem L2 FL FR
local macro_rules | `(tactic| walk_at "fl") => `(tactic| simp only [dSeq, dAsg, dgName, dVar, dC, dOp, dUn, dIxK, ixkR, itemsR, dTup, dLst, dCons, dNil, dCall, dCB, dIfS, dIf, dTestR, dTru, dTruR, dRet, dRetN, dNext, dDrop, dAnd, dOr, dNot, dAndV, dOrV, dNotV, dPar, dFor, dRg1, dRg2, dItems, dgTup, dgCons, dgNil, dZip, dZipR, dIsi, isTy, tgOf, tab, dApp, dgSub, dLstM, dVarF, dBreak, dCont, dSl, dSlR, dPart, dNoPart, dLcG, dChain, dAug, dEnum,
  qI, qI0, qNeg, qEq, qNe, qIsN, qNotN, isNone, eqOk, dIxR, cAbs, cInt, cLen, cSum, cMax2, cMin2, cTup, cList, cListM, eqv_ii, eqv_bb, kFro, kMut,
  endsD, sd1, sd2, sd3, getS, getC, datas, List.length_cons, List.length_nil, List.map_cons, List.map_nil, Option.map_some, List.set_cons_zero, List.set_cons_succ, List.replicate_succ, List.replicate_zero, List.getElem?_cons_zero, List.getElem?_cons_succ, List.cons_append, List.nil_append,
  Option.some.injEq, S.d.injEq, S.ref.injEq, PyData.int.injEq, PyData.bool.injEq, PyData.list.injEq, PyData.tuple.injEq, List.cons.injEq, and_true, true_and, exists_eq_left, exists_eq_left', exists_eq_right, exists_and_left, exists_and_right, exists_const, forall_const, imp_self, reduceCtorEq, false_and, and_false, decide_eq_true_eq, decide_eq_false_iff_not, Bool.not_eq_true', Bool.not_eq_false', ne_eq, Classical.not_not, Bool.true_eq_false, Bool.false_eq_true, Nat.reduceAdd, false_implies, true_implies, implies_true, sizeLine_eq, Nat.reduceLeDiff, decide_true, decide_false, Bool.not_true, Bool.not_false, decide_not])
theorem gd_turns {d : EndsD} {cs : Sto} : ∀ (n : Nat) (p q : Int), 0 ≤ q → q.toNat < n → (∀ g : Int, (if g < 0 then -g else g) = (Int.gcd p q : Nat) → d.nx [some (si g), some (si 0)] cs) →
    whileR (dTestR (dOp qNe (dVar 1) (dC (.int 0)))) rd_greatest_divisor_b1 d n [some (si p), some (si q)] cs
  | 0, p, q, _, h, _ => absurd h (Nat.not_lt_zero _)
  | n + 1, p, q, hq, h, k => by
    unfold whileR rd_greatest_divisor_b1
    walk_at "fl"
    refine ⟨fun hne => ⟨by omega, ?_⟩, fun e => ?_⟩
    · have h0 : 0 < q := by omega
      have h1 := Int.emod_nonneg p (show q ≠ 0 by omega)
      have h2 := Int.emod_lt_of_pos p h0
      exact gd_turns n q (p % q) h1 (by omega) fun g hg => k g (by rw [hg, gcd_turn])
    · subst e
      refine k p ?_
      rw [Int.gcd_zero_right]
      split <;> omega
theorem m_greatest_divisor : ∀ xs cs R, xs.length = 2 → Okc cs.length cs → T_greatest_divisor xs cs R → rd_greatest_divisor (endsD cs.length R) (startD 2 xs) cs := by
  rintro xs cs R hl hc ⟨p, q, rfl, hq, h⟩
  unfold rd_greatest_divisor
  walk_at "fl"
  refine ⟨q.toNat + 1, gd_turns _ p q hq (by omega) fun g hg => ?_⟩
  walk_at "fl"
  rw [hg]
  exact rt_l h
theorem m_ratio : ∀ xs cs R, xs.length = 2 → Okc cs.length cs → T_ratio xs cs R → rd_ratio (endsD cs.length R) (startD 3 xs) cs := by
  rintro xs cs R hl hc ⟨p, q, rfl, hq, hb, h⟩
  unfold rd_ratio T_greatest_divisor
  walk_at "fl"
  refine ⟨fun hn => ⟨-p, -q, ⟨rfl, rfl⟩, by omega, ?_⟩, fun hn => ⟨p, q, ⟨rfl, rfl⟩, by omega, ?_⟩⟩
  · have hq' : (0 : Int) < -q := by omega
    have g1 : CDivW (-p) (Int.gcd (-p) (-q) : Nat) := cdiv_ok _ (gcd_ne (by omega)) (gcd_bound (by omega) hb.neg)
    have g2 : CDivW (-q) (Int.gcd (-p) (-q) : Nat) := cdiv_ok _ (gcd_ne (by omega)) (gcd_bound (by omega) hb.neg)
    refine ⟨g1, g2, rt_l ?_⟩
    rw [num_is hq', den_is hq', divInt_flip]
    exact h
  · have hq' : (0 : Int) < q := by omega
    have g1 : CDivW p (Int.gcd p q : Nat) := cdiv_ok _ (gcd_ne hq) (gcd_bound hq hb)
    have g2 : CDivW q (Int.gcd p q : Nat) := cdiv_ok _ (gcd_ne hq) (gcd_bound hq hb)
    refine ⟨g1, g2, rt_l ?_⟩
    rw [num_is hq', den_is hq']
    exact h
theorem m_added : ∀ xs cs R, xs.length = 2 → Okc cs.length cs → T_added xs cs R → rd_added (endsD cs.length R) (startD 2 xs) cs := by
  rintro xs cs R hl hc ⟨r, t, rfl, hr, ht, h⟩
  unfold rd_added T_ratio sr encR
  walk_at "fl"
  refine ⟨hr.n.cm ht.d, ht.n.cm hr.d, hr.d.cm ht.d, _, _, ⟨rfl, rfl⟩, mul_ne (den_ne r) (den_ne t), (hr.d.mul ht.d).mono (by decide), rt_l ?_⟩
  rw [← add_is]
  exact h
theorem m_opposite : ∀ xs cs R, xs.length = 1 → Okc cs.length cs → T_opposite xs cs R → rd_opposite (endsD cs.length R) (startD 1 xs) cs := by
  rintro xs cs R hl hc ⟨r, rfl, h⟩
  unfold rd_opposite sr encR
  walk_at "fl"
  exact rt_l h
theorem m_less : ∀ xs cs R, xs.length = 2 → Okc cs.length cs → T_less xs cs R → rd_less (endsD cs.length R) (startD 2 xs) cs := by
  rintro xs cs R hl hc ⟨r, t, rfl, hr, ht, h⟩
  unfold rd_less T_added T_opposite
  walk_at "fl"
  refine ⟨t, rfl, r, -t, ⟨rfl, rfl⟩, hr, ht.neg, rt_l ?_⟩
  rw [← Rat.sub_eq_add_neg]
  exact h
theorem m_times : ∀ xs cs R, xs.length = 2 → Okc cs.length cs → T_times xs cs R → rd_times (endsD cs.length R) (startD 2 xs) cs := by
  rintro xs cs R hl hc ⟨r, t, rfl, hr, ht, h⟩
  unfold rd_times T_ratio sr encR
  walk_at "fl"
  refine ⟨hr.n.cm ht.n, hr.d.cm ht.d, _, _, ⟨rfl, rfl⟩, mul_ne (den_ne r) (den_ne t), (hr.d.mul ht.d).mono (by decide), rt_l ?_⟩
  rw [← mul_is]
  exact h
theorem m_over : ∀ xs cs R, xs.length = 2 → Okc cs.length cs → T_over xs cs R → rd_over (endsD cs.length R) (startD 2 xs) cs := by
  rintro xs cs R hl hc ⟨r, t, rfl, hr, ht, h0, h⟩
  unfold rd_over T_ratio sr encR
  walk_at "fl"
  refine ⟨hr.n.cm ht.d, hr.d.cm ht.n, _, _, ⟨rfl, rfl⟩, mul_ne (den_ne r) (num_ne h0), (hr.d.mul ht.n).mono (by decide), rt_l ?_⟩
  rw [← div_is]
  exact h
theorem cmp_is {r t : Rat} : cmpR r t = if r.num * t.den - t.num * r.den < 0 then -1 else if r.num * t.den - t.num * r.den > 0 then 1 else 0 := by
  unfold cmpR
  simp only [Rat.lt_iff]
  split <;> split <;> (try split) <;> omega
theorem m_compare : ∀ xs cs R, xs.length = 2 → Okc cs.length cs → T_compare xs cs R → rd_compare (endsD cs.length R) (startD 3 xs) cs := by
  rintro xs cs R hl hc ⟨r, t, rfl, hr, ht, h⟩
  rw [cmp_is] at h
  unfold rd_compare sr encR
  walk_at "fl"
  refine ⟨hr.n.cm ht.d, ht.n.cm hr.d, fun h1 => rt_l ?_, fun h1 => ⟨fun h2 => rt_l ?_, fun h2 => rt_l ?_⟩⟩
  · rw [if_pos h1] at h; exact h
  · rw [if_neg h1, if_pos h2] at h; exact h
  · rw [if_neg h1, if_neg (by omega)] at h; exact h
theorem nothing_is : c_NOTHING = encR 0 := rfl
theorem fold_add (f : List Rat) (r : Rat) : f.foldl (· + ·) r = r + f.foldl (· + ·) 0 := by
  induction f generalizing r with
  | nil => simp [Rat.add_zero]
  | cons x f ih => rw [List.foldl_cons, List.foldl_cons, ih, ih (0 + x), Rat.zero_add, Rat.add_assoc]
theorem bl_turns {d : EndsD} {cs : Sto} {X Y : Option S} : ∀ (ws ts : List Rat) (r : Rat) (n : Nat) (o3 o4 : Option S), (∀ w ∈ ws, RB 10 w) → (∀ t ∈ ts, RB 150 t) → RB n r → n + 161 * ws.length ≤ 3000 →
    (∀ o3 o4, d.nx [X, Y, some (sr ((List.zipWith (· * ·) ws ts).foldl (· + ·) r)), o3, o4] cs) →
    forR okT (dgTup 2 (dgCons (dgName 3) (dgCons (dgName 4) dgNil))) rd_blended_b1 d (zipD (ws.map encR) (ts.map encR)) [X, Y, some (sr r), o3, o4] cs
  | [], ts, r, n, o3, o4, _, _, _, _, k => ⟨trivial, k o3 o4⟩
  | _ :: _, [], r, n, o3, o4, _, _, _, _, k => ⟨trivial, k o3 o4⟩
  | w :: ws, t :: ts, r, n, o3, o4, hw, ht, hr, hn, k => by
    have hw0 := hw w List.mem_cons_self
    have ht0 := ht t List.mem_cons_self
    have ih := fun r' n' => bl_turns (d := d) (cs := cs) (X := X) (Y := Y) ws ts r' n' (some (sr w)) (some (sr t)) (fun w h => hw w (List.mem_cons_of_mem _ h)) (fun t h => ht t (List.mem_cons_of_mem _ h))
    simp only [List.length_cons] at hn
    have skip : w = 0 ∨ t = 0 → ((w :: ws).zipWith (· * ·) (t :: ts)).foldl (· + ·) r = (ws.zipWith (· * ·) ts).foldl (· + ·) r := fun h => by
      rw [List.zipWith_cons_cons, List.foldl_cons]
      have : w * t = 0 := Rat.mul_eq_zero.mpr h
      rw [this, Rat.add_zero]
    refine ⟨trivial, ?_⟩
    show dgTup 2 _ _ _ _ _
    unfold rd_blended_b1 T_added T_times
    walk_at "fl"
    rw [nothing_is]
    simp only [eqv_enc]
    walk_at "fl"
    refine ⟨⟨shaped_enc w, shaped_enc 0⟩, fun h1 => ⟨⟨shaped_enc t, shaped_enc 0⟩, fun h2 => ?_, fun h2 => ?_⟩, fun h1 => ?_⟩
    rotate_right 1
    · rw [skip (.inl h1)] at k
      exact ih r n hr (by omega) k
    · refine ⟨w, t, ⟨rfl, rfl⟩, hw0.mono (by decide), ht0.mono (by decide), r, w * t, ⟨rfl, rfl⟩, hr.mono (by omega), (hw0.mul ht0).mono (by decide), ?_⟩
      exact ih (r + w * t) (n + 161) (hr.add (hw0.mul ht0)) (by omega) k
    · rw [skip (.inr h2)] at k
      exact ih r n hr (by omega) k
theorem m_blended : ∀ xs cs R, xs.length = 2 → Okc cs.length cs → T_blended xs cs R → rd_blended (endsD cs.length R) (startD 5 xs) cs := by
  rintro xs cs R hl hc ⟨ws, ts, rfl, hw, ht, hn, h⟩
  unfold rd_blended
  walk_at "fl"
  rw [nothing_is]
  refine bl_turns ws ts 0 1 none none hw ht ⟨by decide, by decide⟩ (by omega) fun o3 o4 => ?_
  walk_at "fl"
  exact rt_l h
theorem m_is_ratio : ∀ xs cs R, xs.length = 1 → Okc cs.length cs → T_is_ratio xs cs R → rd_is_ratio (endsD cs.length R) (startD 1 xs) cs := by
  rintro xs cs R hl hc ⟨p, q, rfl, h⟩
  unfold rd_is_ratio T_greatest_divisor
  unfold low at h
  walk_at "fl"
  refine ⟨fun h1 => ⟨p, q, ⟨rfl, rfl⟩, by omega, rt_l ?_⟩, fun h1 => rt_l ?_⟩
  · rw [decide_eq_true h1, Bool.true_and] at h
    have e : decide (((Int.gcd p q : Nat) : Int) = 1) = decide (Int.gcd p q = 1) := by
      congr 1
      exact propext ⟨fun z => by omega, fun z => by omega⟩
    rw [e]
    exact h
  · rw [decide_eq_false h1, Bool.false_and] at h
    exact h
theorem m__law_bool : ∀ xs cs R, xs.length = 2 → Okc cs.length cs → T__law_bool xs cs R → rd__law_bool (endsD cs.length R) (startD 2 xs) cs := by
  rintro xs cs R hl hc ⟨b, rfl, h⟩
  unfold rd__law_bool
  walk_at "fl"
  refine rt_l ?_
  simpa using h
theorem m__law_plus : ∀ xs cs R, xs.length = 2 → Okc cs.length cs → T__law_plus xs cs R → rd__law_plus (endsD cs.length R) (startD 2 xs) cs := by
  rintro xs cs R hl hc ⟨r, t, rfl, hr, ht, h⟩
  unfold rd__law_plus T__law_ratio sr encR
  walk_at "fl"
  refine ⟨hr.n.cm ht.d, ht.n.cm hr.d, hr.d.cm ht.d, _, _, ⟨rfl, rfl⟩, mul_ne (den_ne r) (den_ne t), ((hr.n.mul ht.d).add (ht.n.mul hr.d)).mono (by decide), (hr.d.mul ht.d).mono (by decide), rt_l ?_⟩
  rw [← add_is]
  exact h
theorem m__law_mult : ∀ xs cs R, xs.length = 2 → Okc cs.length cs → T__law_mult xs cs R → rd__law_mult (endsD cs.length R) (startD 2 xs) cs := by
  rintro xs cs R hl hc ⟨r, t, rfl, hr, ht, h⟩
  unfold rd__law_mult T__law_ratio sr encR
  walk_at "fl"
  refine ⟨hr.n.cm ht.n, hr.d.cm ht.d, _, _, ⟨rfl, rfl⟩, mul_ne (den_ne r) (den_ne t), (hr.n.mul ht.n).mono (by decide), (hr.d.mul ht.d).mono (by decide), rt_l ?_⟩
  rw [← mul_is]
  exact h
theorem m__law_minus : ∀ xs cs R, xs.length = 2 → Okc cs.length cs → T__law_minus xs cs R → rd__law_minus (endsD cs.length R) (startD 2 xs) cs := by
  rintro xs cs R hl hc ⟨r, t, rfl, hr, ht, h⟩
  have e : S.d (.tuple [.int (-t.num), .int (t.den : Int)]) = sr (-t) := rfl
  unfold rd__law_minus T__law_plus T_added
  conv => unfold sr encR
  walk_at "fl"
  refine ⟨r, -t, ⟨⟨rfl, rfl⟩, rfl, rfl⟩, hr, ht.neg, rt_l ?_⟩
  rw [← Rat.sub_eq_add_neg]
  exact h
theorem m__law_over : ∀ xs cs R, xs.length = 2 → Okc cs.length cs → T__law_over xs cs R → rd__law_over (endsD cs.length R) (startD 2 xs) cs := by
  rintro xs cs R hl hc ⟨r, t, rfl, hr, ht, h0, h⟩
  unfold rd__law_over T__law_ratio sr encR
  walk_at "fl"
  refine ⟨hr.n.cm ht.d, hr.d.cm ht.n, _, _, ⟨rfl, rfl⟩, mul_ne (den_ne r) (num_ne h0), (hr.n.mul ht.d).mono (by decide), (hr.d.mul ht.n).mono (by decide), rt_l ?_⟩
  rw [← div_is]
  exact h
theorem gcd_turn' {a b : Int} : Int.gcd (b % a) a = Int.gcd a b := by rw [Int.gcd_comm, gcd_turn, Int.gcd_comm]
/-! Euclid's turns: the product of both halves -/
theorem eu_half {a b : Int} (ha : 0 < a) (hab : a < b) : b % a * a * 2 ≤ a * b := by
  have h1 := Int.emod_add_mul_ediv b a
  have h2 := Int.emod_lt_of_pos b ha
  have h3 := Int.emod_nonneg b (show a ≠ 0 by omega)
  have h4 : 1 ≤ b / a := Int.le_ediv_of_mul_le ha (by omega)
  have h5 : a * 1 ≤ a * (b / a) := Int.mul_le_mul_of_nonneg_left h4 (by omega)
  have h6 : b % a * 2 ≤ b := by omega
  have h7 : b % a * 2 * a ≤ b * a := Int.mul_le_mul_of_nonneg_right h6 (by omega)
  have e1 : b % a * a * 2 = b % a * 2 * a := by rw [Int.mul_assoc, Int.mul_comm a 2, ← Int.mul_assoc]
  rw [e1, Int.mul_comm a b]
  exact h7
theorem lr_turns {d : EndsD} {cs : Sto} {P Q : Option S} : ∀ (n m : Nat) (lo a b : Int) (o : Option S), 0 ≤ a → a < b → a * b < 2 ^ n → n < m →
    (∀ o, d.nx [P, Q, some (si 0), some (si (Int.gcd a b : Nat)), o] cs) →
    forR okT (dgName 4) rd__law_ratio_b1 d (rgS lo m) [P, Q, some (si a), some (si b), o] cs
  | n, 0, lo, a, b, o, _, _, _, hm, _ => absurd hm (Nat.not_lt_zero _)
  | n, m + 1, lo, a, b, o, ha, hab, hn, hm, k => by
    rw [rgS_succ]
    refine ⟨trivial, ?_⟩
    unfold rd__law_ratio_b1
    walk_at "fl"
    refine ⟨fun e => ?_, fun e => ⟨by omega, ?_⟩⟩
    · subst e
      have := k (some (si lo))
      rw [Int.gcd_zero_left] at this
      have e2 : ((b.natAbs : Nat) : Int) = b := by omega
      rw [e2] at this
      exact this
    · have h0 : 0 < a := by omega
      have h1 := Int.emod_nonneg b (show a ≠ 0 by omega)
      have h2 := Int.emod_lt_of_pos b h0
      have h3 := eu_half h0 hab
      cases n with
      | zero =>
        have : 1 * 1 ≤ a * b := Int.mul_le_mul (by omega) (by omega) (by omega) (by omega)
        simp at hn
        omega
      | succ n =>
        have e : (2 : Int) ^ (n + 1) = 2 ^ n * 2 := Int.pow_succ 2 n
        refine lr_turns n m (lo + 1) (b % a) a (some (si lo)) h1 h2 (by omega) (by omega) fun o => ?_
        rw [gcd_turn']
        exact k o
theorem m__law_ratio : ∀ xs cs R, xs.length = 2 → Okc cs.length cs → T__law_ratio xs cs R → rd__law_ratio (endsD cs.length R) (startD 5 xs) cs := by
  rintro xs cs R hl hc ⟨p, q, rfl, hq, hp, hb, h⟩
  -- both ways: q below 0 or not
  have main : ∀ p q : Int, 0 < q → B 8000 p → B 8000 q → R (sr (Rat.divInt p q)) cs → ∀ o2 o3 o4, (dSeq (dAsg (dCB cAbs (dCons (dVar 0) dNil)) (dgName 2))
    (dSeq (dAsg (dVar 1) (dgName 3))
    (dSeq (dFor (dRg1 (dCons (dC (.int 100000)) dNil)) (dgName 4)
    rd__law_ratio_b1)
    (dRet (dTup (dCons (dOp qDiv (dVar 0) (dVar 3)) (dCons (dOp qDiv (dVar 1) (dVar 3)) dNil))))))) (endsD cs.length R) [some (si p), some (si q), o2, o3, o4] cs := fun p q hq hp hb h o2 o3 o4 => by
    walk_at "fl"
    refine ⟨by decide, by decide, ?_⟩
    have ea : (if p < 0 then -p else p) = (p.natAbs : Int) := by split <;> omega
    rw [ea]
    have fin : ∀ o, (dRet (dTup (dCons (dOp qDiv (dVar 0) (dVar 3)) (dCons (dOp qDiv (dVar 1) (dVar 3)) dNil)))) (endsD cs.length R) [some (si p), some (si q), some (si 0), some (si (Int.gcd p q : Nat)), o] cs := fun o => by
      walk_at "fl"
      refine ⟨cdiv_ok _ (gcd_ne (by omega)) (gcd_bound (by omega) hb), cdiv_ok _ (gcd_ne (by omega)) (gcd_bound (by omega) hb), rt_l ?_⟩
      rw [num_is hq, den_is hq]
      exact h
    have eg : Int.gcd (p.natAbs : Int) q = Int.gcd p q := by unfold Int.gcd; simp
    generalize hK : Int.toNat 100000 = KK
    have hK2 : 30000 ≤ KK := by omega
    clear hK
    cases KK with
    | zero => omega
    | succ M =>
    have hM : 20000 ≤ M := by omega
    have hpa : B 8000 (p.natAbs : Int) := hp.abs
    by_cases h0 : (p.natAbs : Int) < q
    · refine lr_turns (8000 + 8000) _ 0 _ _ _ (by omega) h0 (two_b (by omega) (by omega) hpa hb) (by omega) fun o => ?_
      rw [eg]
      exact fin o
    · rw [rgS_succ]
      refine ⟨trivial, ?_⟩
      unfold rd__law_ratio_b1
      walk_at "fl"
      refine ⟨fun e => by omega, fun e => ⟨by omega, ?_⟩⟩
      have h1 := Int.emod_nonneg q (show (p.natAbs : Int) ≠ 0 by omega)
      have h2 := Int.emod_lt_of_pos q (show 0 < (p.natAbs : Int) by omega)
      have hb2 : B 8000 (q % (p.natAbs : Int)) := hpa.le h1 (by omega)
      refine lr_turns (8000 + 8000) _ (0 + 1) _ _ _ h1 h2 (two_b h1 (by omega) hb2 hpa) (by omega) fun o => ?_
      rw [gcd_turn', eg]
      exact fin o
  by_cases hn : q < 0
  · have := main (-p) (-q) (by omega) hp.neg hb.neg (by rw [divInt_flip]; exact h) none none none
    revert this
    unfold rd__law_ratio
    walk_at "fl"
    exact fun this => ⟨fun _ => this, fun z => absurd hn z⟩
  · have := main p q (by omega) hp hb h none none none
    revert this
    unfold rd__law_ratio
    walk_at "fl"
    exact fun this => ⟨fun z => absurd z hn, fun _ => this⟩
end K02

set_option Elab.async false
set_option linter.all false
set_option maxRecDepth 100000
set_option maxHeartbeats 2000000
namespace K02
open PySem L2 FL FR
local macro_rules | `(tactic| walk_at "fl") => `(tactic| simp only [dSeq, dAsg, dgName, dVar, dC, dOp, dUn, dIxK, ixkR, itemsR, dTup, dLst, dCons, dNil, dCall, dCB, dIfS, dIf, dTestR, dTru, dTruR, dRet, dRetN, dNext, dDrop, dAnd, dOr, dNot, dAndV, dOrV, dNotV, dPar, dFor, dRg1, dRg2, dItems, dgTup, dgCons, dgNil, dZip, dZipR, dIsi, isTy, tgOf, tab, dApp, dgSub, dLstM, dVarF, dBreak, dCont, dSl, dSlR, dPart, dNoPart, dLcG, dChain, dAug, dEnum,
  qI, qI0, qNeg, qEq, qNe, qIsN, qNotN, isNone, eqOk, dIxR, cAbs, cInt, cLen, cSum, cMax2, cMin2, cTup, cList, cListM, eqv_ii, eqv_bb, kFro, kMut,
  endsD, sd1, sd2, sd3, getS, getC, datas, List.length_cons, List.length_nil, List.map_cons, List.map_nil, Option.map_some, List.set_cons_zero, List.set_cons_succ, List.replicate_succ, List.replicate_zero, List.getElem?_cons_zero, List.getElem?_cons_succ, List.cons_append, List.nil_append,
  Option.some.injEq, S.d.injEq, S.ref.injEq, PyData.int.injEq, PyData.bool.injEq, PyData.list.injEq, PyData.tuple.injEq, List.cons.injEq, and_true, true_and, exists_eq_left, exists_eq_left', exists_eq_right, exists_and_left, exists_and_right, exists_const, forall_const, imp_self, reduceCtorEq, false_and, and_false, decide_eq_true_eq, decide_eq_false_iff_not, Bool.not_eq_true', Bool.not_eq_false', ne_eq, Classical.not_not, Bool.true_eq_false, Bool.false_eq_true, Nat.reduceAdd, false_implies, true_implies, implies_true, sizeLine_eq, Nat.reduceLeDiff, decide_true, decide_false, Bool.not_true, Bool.not_false, decide_not])
local macro_rules | `(tactic| walk_at "fm") => `(tactic| simp only [rgS_len, wip, dSeq, ixk_l, ixk_t, ixk_r, ixr_l, ixr_t, ixr_s, ixr_r, tru_n, tru_b, tru_i, tru_l, tru_t, tru_s, tru_r, its_l, its_t, its_r, gtup_t, eqk_i, eqk_b, eqk_s, eqk_t, eqk_l, len_l, len_t, len_s, len_r, int_i, int_b, sum_l, sum_r, tup_l, tup_t, tup_r, lis_l, lis_t, lis_r, lim_l, lim_t, lim_r, zip_t, zip_l, sl_l, sl_t, sl_r, dAsg, dgName, dVar, dC, dOp, dUn, dIxK, dTup, dLst, dCons, dNil, dCall, dCB, dIfS, dIf, dTestR, dTru, dRet, dRetN, dNext, dDrop, dAnd, dOr, dNot, dAndV, dOrV, dNotV, dPar, dFor, dRg1, dRg2, dItems, dgCons, dgNil, dZip, dIsi, isTy, tgOf, tab, dApp, dgSub, dLstM, dVarF, dBreak, dCont, dSl, dPart, dNoPart, dLcG, dChain, dAug, dEnum,
  qI, qI0, qNeg, qEq, qNe, qIsN, qNotN, isNone, cAbs, cMax2, cMin2, eqv_ii, eqv_bb, kFro, kMut,
  endsD, sd1, sd2, sd3, getS, getC, datas, List.length_cons, List.length_nil, List.map_cons, List.map_nil, Option.map_some, List.set_cons_zero, List.set_cons_succ, List.replicate_succ, List.replicate_zero, List.getElem?_cons_zero, List.getElem?_cons_succ, List.cons_append, List.nil_append,
  Option.some.injEq, S.d.injEq, S.ref.injEq, PyData.int.injEq, PyData.bool.injEq, PyData.list.injEq, PyData.tuple.injEq, List.cons.injEq, and_true, true_and, exists_eq_left, exists_eq_left', exists_eq_right, exists_and_left, exists_and_right, exists_const, exists_eq', exists_eq, ixk_enc0, ixk_enc1, not_true_eq_false, not_false_eq_true, and_self, enc_eq, dOk_enc, dOk_int, eqv_enc, datas_si, datas_map, intsOf_map, and_assoc, List.length_map, List.length_append, forall_const, imp_self, reduceCtorEq, false_and, and_false, decide_eq_true_eq, decide_eq_false_iff_not, Bool.not_eq_true', Bool.not_eq_false', ne_eq, Classical.not_not, Bool.true_eq_false, Bool.false_eq_true, Nat.reduceAdd, false_implies, true_implies, implies_true, sizeLine_eq, Nat.reduceLeDiff, decide_true, decide_false, Bool.not_true, Bool.not_false, decide_not])
theorem m__law_order : ∀ xs cs R, xs.length = 2 → Okc cs.length cs → T__law_order xs cs R → rd__law_order (endsD cs.length R) (startD 3 xs) cs := by
  rintro xs cs R hl hc ⟨r, t, rfl, hr, ht, h⟩
  rw [cmp_is] at h
  unfold rd__law_order sr encR
  walk_at "fl"
  refine ⟨hr.n.cm ht.d, ht.n.cm hr.d, rt_l ?_⟩
  revert h
  generalize r.num * (t.den : Int) - t.num * (r.den : Int) = g
  intro h
  have e : ((if g > 0 then 1 else 0 : Int) - if g < 0 then 1 else 0) = if g < 0 then -1 else if g > 0 then 1 else 0 := by split <;> split <;> omega
  rw [← e] at h
  simpa using h
theorem ixn1 : ixN 1 0 = some 0 := rfl
theorem m__law_take : ∀ xs cs R, xs.length = 2 → Okc cs.length cs → T__law_take xs cs R → rd__law_take (endsD cs.length R) (startD 3 xs) cs := by
  rintro xs cs R hl hc ⟨row, total, pos, gs, many, rfl, rfl, D, hm, h⟩
  have h' : ∀ v, 0 ≤ v → v < many → R (si v) (none :: some [si (pos + 1)] :: some [.d (.list (row.map PyData.int)), .ref 1, si total] :: gs) := h
  have p0 := D.p0
  have p1 := D.p1
  have t0 := D.t0
  have t1 := D.t1
  have bp : B 41 pos := by unfold B; omega
  have bt : B 41 total := by unfold B; omega
  unfold rd__law_take DS
  walk_at "fl"
  refine ⟨0, rfl, fun hlt => ?_, fun hge => ⟨bp.cm (m := 13) (by unfold B; decide), bt.cm (m := 5) (by unfold B; decide), bp.cm bp, (bp.mul bp).cm (m := 5) (by unfold B; decide), cdiv_ok (n := 2) _ (by decide) (by unfold B; decide), hm, rt_l ?_⟩⟩
  · obtain ⟨x, hx, e⟩ := atI_of p0 hlt
    obtain ⟨v, hv, rfl⟩ := List.mem_map.mp hx
    exact ⟨_, e, v, rfl, hm, rt_l (h' _ (Int.emod_nonneg _ (by omega)) (Int.emod_lt_of_pos _ hm))⟩
  · exact h' _ (Int.emod_nonneg _ (by omega)) (Int.emod_lt_of_pos _ hm)
theorem m__law_pick : ∀ xs cs R, xs.length = 2 → Okc cs.length cs → T__law_pick xs cs R → rd__law_pick (endsD cs.length R) (startD 2 xs) cs := by
  rintro xs cs R hl hc ⟨row, total, pos, gs, ds, rfl, rfl, D, hd, h⟩
  unfold rd__law_pick T__law_take
  walk_at "fl"
  refine ⟨row, total, pos, gs, rfl, D, by omega, fun v h0 h1 => ?_⟩
  obtain ⟨x, hx, e⟩ := atI_of h0 h1
  exact ⟨x, e, rt_l (h x hx)⟩
theorem Deal.next {row : List Int} {total pos : Int} (D : Deal row total pos) {p : Int} (h0 : pos ≤ p) (h1 : p < 2 ^ 40) : Deal row total p := ⟨D.len, D.lo, D.t0, D.t1, by have := D.p0; omega, h1⟩
theorem gr_b {k : Nat} {f v : Int} (h0 : 0 ≤ f) (hf : B (10 * k) f) (v0 : 0 ≤ v) (v1 : v < 1009) : B (10 * (k + 1)) (f * 1009 + v) := by
  unfold B at *
  have e : (2 : Nat) ^ (10 * (k + 1)) = 2 ^ (10 * k) * 1024 := by rw [Nat.mul_add, Nat.pow_add]
  omega
theorem gr_turns {d : EndsD} {row : List Int} {total : Int} {gs : Sto} {M : Option S} (n : Nat) : ∀ (k : Nat) (lo pos f : Int) (o : Option S), Deal row total pos → pos + n < 2 ^ 40 → 0 ≤ f → B (10 * k) f → k + n ≤ 100 →
    (∀ v o, 0 ≤ v → B (10 * (k + n)) v → d.nx [some (.ref 2), M, some (si v), o] (DS row total (pos + n) gs)) →
    forR okT (dgName 3) rd__law_great_b1 d (rgS lo n) [some (.ref 2), M, some (si f), o] (DS row total pos gs) := by
  induction n with
  | zero =>
    intro k lo pos f o D hp h0 hf hk h
    have := h f o h0 hf
    rw [show pos + ((0 : Nat) : Int) = pos by omega] at this
    exact ⟨trivial, this⟩
  | succ n ih =>
    intro k lo pos f o D hp h0 hf hk h
    rw [rgS_succ]
    refine ⟨trivial, ?_⟩
    unfold rd__law_great_b1 T__law_take
    walk_at "fl"
    have hb : B 10 1009 := by unfold B; decide
    refine ⟨(hf.mono (show 10 * k ≤ 10 * k + 1 by omega)).cm hb (by omega) (by decide) (by omega), row, total, pos, gs, rfl, D, by decide, fun v v0 v1 => ?_⟩
    refine ih (k + 1) _ (pos + 1) (f * 1009 + v) _ (D.next (by omega) (by omega)) (by omega) (by omega) (gr_b h0 hf v0 v1) (by omega) fun v o a b => ?_
    have := h v o a (by rw [show k + (n + 1) = k + 1 + n by omega]; exact b)
    rw [show pos + ((n + 1 : Nat) : Int) = pos + 1 + (n : Int) by omega] at this
    exact this
theorem m__law_great : ∀ xs cs R, xs.length = 2 → Okc cs.length cs → T__law_great xs cs R → rd__law_great (endsD cs.length R) (startD 4 xs) cs := by
  rintro xs cs R hl hc ⟨row, total, pos, gs, many, rfl, rfl, D, hm, hp, h⟩
  unfold rd__law_great
  walk_at "fl"
  refine ⟨by omega, by omega, ?_⟩
  rw [Int.toNat_natCast]
  refine gr_turns many 0 0 pos 0 none D (by omega) (by decide) (by unfold B; simp) (by omega) fun v o a b => ?_
  walk_at "fl"
  rw [show 10 * (0 + many) = 10 * many by omega] at b
  exact rt_l (h v b a)
theorem m__law_number : ∀ xs cs R, xs.length = 1 → Okc cs.length cs → T__law_number xs cs R → rd__law_number (endsD cs.length R) (startD 3 xs) cs := by
  rintro xs cs R hl hc ⟨row, total, pos, gs, rfl, rfl, D, hp, h⟩
  -- the sign drawn last
  have sign : ∀ (v p : Int) (o1 : Option S), B 144 v → pos ≤ p → p ≤ pos + 15 → (dRet (dOp qMul (dVar 2) (dOp qSub (dC (.int 1)) (dOp qMul (dC (.int 2)) (dCall 2 T__law_take (dCons (dVar 0) (dCons (dC (.int 2)) dNil))))))) (endsD (DS row total pos gs).length R) [some (.ref 2), o1, some (si v)] (DS row total p gs) := fun v p o1 hv h0 h1 => by
    unfold T__law_take
    walk_at "fl"
    refine ⟨row, total, p, gs, rfl, D.next h0 (by omega), by decide, fun w w0 w1 => ?_⟩
    have hw : w = 0 ∨ w = 1 := by omega
    rcases hw with rfl | rfl
    · have b1 : B 1 (1 - 2 * 0) := by unfold B; decide
      exact ⟨by unfold CMulW; decide, hv.cm b1, rt_l (h _ _ (hv.mul b1) (by omega) (by omega))⟩
    · have b1 : B 1 (1 - 2 * 1) := by unfold B; decide
      exact ⟨by unfold CMulW; decide, hv.cm b1, rt_l (h _ _ (hv.mul b1) (by omega) (by omega))⟩
  unfold rd__law_number
  generalize (dRet (dOp qMul (dVar 2) (dOp qSub (dC (.int 1)) (dOp qMul (dC (.int 2)) (dCall 2 T__law_take (dCons (dVar 0) (dCons (dC (.int 2)) dNil))))))) = L at sign ⊢
  unfold T__law_take T__law_pick T__law_great
  walk_at "fl"
  refine ⟨row, total, pos, gs, rfl, D, by decide, fun v v0 v1 => ⟨fun e => ?_, fun e => ⟨fun e1 => ?_, fun e1 => ⟨fun e2 => ?_, fun e2 => ?_⟩⟩⟩⟩
  · refine ⟨by unfold CPow; decide, by unfold CPow; decide, by unfold CPow; decide, row, total, pos + 1, gs, rfl, D.next (by omega) (by omega), by decide, fun d hd => ?_⟩
    have all : ∀ d ∈ [PyData.int 0, .int 1, .int 2, .int (10 ^ Int.toNat 40 - 1), .int (10 ^ Int.toNat 40), .int (2 ^ Int.toNat 53 + 1)], ∃ i : Int, d = .int i ∧ B 144 i := fun d hd => by
      simp only [List.mem_cons, List.not_mem_nil, or_false] at hd
      rcases hd with rfl | rfl | rfl | rfl | rfl | rfl <;> exact ⟨_, rfl, by unfold B; decide⟩
    obtain ⟨i, rfl, hb⟩ := all d hd
    exact sign i _ _ hb (by omega) (by omega)
  · exact ⟨row, total, pos + 1, gs, 14, rfl, rfl, D.next (by omega) (by omega), by decide, by omega, fun v b a => sign v _ _ (b.mono (by decide)) (by omega) (by omega)⟩
  · exact ⟨row, total, pos + 1, gs, 3, rfl, rfl, D.next (by omega) (by omega), by decide, by omega, fun v b a => sign v _ _ (b.mono (by decide)) (by omega) (by omega)⟩
  · refine ⟨row, total, pos + 1, gs, rfl, D.next (by omega) (by omega), by decide, fun v a b => sign v _ _ ?_ (by omega) (by omega)⟩
    have b10 : B 10 v := by unfold B; omega
    exact b10.mono (by decide)
theorem m__law_other : ∀ xs cs R, xs.length = 1 → Okc cs.length cs → T__law_other xs cs R → rd__law_other (endsD cs.length R) (startD 2 xs) cs := by
  rintro xs cs R hl hc ⟨row, total, pos, gs, rfl, rfl, D, hp, h⟩
  unfold rd__law_other T__law_number
  walk_at "fl"
  refine ⟨row, total, pos, gs, rfl, D, hp, fun v p b h0 h1 => ⟨fun e => rt_l (h v p e b h0 h1), fun e => rt_l (h 1 p (by decide) (by unfold B; decide) h0 h1)⟩⟩
theorem m__law_is_lowest : ∀ xs cs R, xs.length = 2 → Okc cs.length cs → T__law_is_lowest xs cs R → rd__law_is_lowest (endsD cs.length R) (startD 2 xs) cs := by
  rintro xs cs R hl hc ⟨p, q, rfl, hp, hq, h⟩
  unfold low at h
  unfold rd__law_is_lowest T__law_ratio
  walk_at "fl"
  refine ⟨fun h1 => rt_l ?_, fun h1 => ⟨p, q, ⟨rfl, rfl⟩, by omega, hp.mono (by decide), hq.mono (by decide), ⟨shaped_enc _, ?_⟩, rt_l ?_⟩⟩
  · rw [decide_eq_false (show ¬ 1 ≤ q by omega), Bool.false_and] at h
    exact h
  · unfold SeqAt.shaped
    simp [PyData.canLay0, PyData.canLayAll0, PyData.depth, PyData.depthAll]
  · rw [decide_eq_true (show 1 ≤ q by omega), Bool.true_and] at h
    have e : PyData.eqv (encR (Rat.divInt p q)) (.tuple [.int p, .int q]) = decide (Int.gcd p q = 1) := by
      unfold encR
      rw [eqv_tt, eqvA_c, eqvA_c, eqvA_n, eqv_ii, eqv_ii, Bool.and_true, ← num_is (show 0 < q by omega), ← den_is (show 0 < q by omega)]
      have hg := gcd_ne (p := p) (show q ≠ 0 by omega)
      by_cases g1 : Int.gcd p q = 1
      · rw [g1]; simp
      · rw [decide_eq_false g1]
        have : ¬ q / (Int.gcd p q : Nat) = q := fun z => by
          have h2 : q / (Int.gcd p q : Nat) * (Int.gcd p q : Nat) = q := Int.ediv_mul_cancel (Int.gcd_dvd_right p q)
          rw [z] at h2
          have h3 : q * ((Int.gcd p q : Nat) - 1 : Int) = 0 := by rw [Int.mul_sub, h2]; omega
          rcases Int.mul_eq_zero.mp h3 with h4 | h4 <;> omega
        rw [decide_eq_false this, Bool.and_false]
    rw [e]
    exact h
end K02

set_option Elab.async false
set_option linter.all false
set_option maxRecDepth 100000
set_option maxHeartbeats 2000000
namespace K02
open PySem L2 FL FR
local macro_rules | `(tactic| walk_at "fl") => `(tactic| simp only [dSeq, dAsg, dgName, dVar, dC, dOp, dUn, dIxK, ixkR, itemsR, dTup, dLst, dCons, dNil, dCall, dCB, dIfS, dIf, dTestR, dTru, dTruR, dRet, dRetN, dNext, dDrop, dAnd, dOr, dNot, dAndV, dOrV, dNotV, dPar, dFor, dRg1, dRg2, dItems, dgTup, dgCons, dgNil, dZip, dZipR, dIsi, isTy, tgOf, tab, dApp, dgSub, dLstM, dVarF, dBreak, dCont, dSl, dSlR, dPart, dNoPart, dLcG, dChain, dAug, dEnum,
  qI, qI0, qNeg, qEq, qNe, qIsN, qNotN, isNone, eqOk, dIxR, cAbs, cInt, cLen, cSum, cMax2, cMin2, cTup, cList, cListM, eqv_ii, eqv_bb, kFro, kMut,
  endsD, sd1, sd2, sd3, getS, getC, datas, List.length_cons, List.length_nil, List.map_cons, List.map_nil, Option.map_some, List.set_cons_zero, List.set_cons_succ, List.replicate_succ, List.replicate_zero, List.getElem?_cons_zero, List.getElem?_cons_succ, List.cons_append, List.nil_append,
  Option.some.injEq, S.d.injEq, S.ref.injEq, PyData.int.injEq, PyData.bool.injEq, PyData.list.injEq, PyData.tuple.injEq, List.cons.injEq, and_true, true_and, exists_eq_left, exists_eq_left', exists_eq_right, exists_and_left, exists_and_right, exists_const, forall_const, imp_self, reduceCtorEq, false_and, and_false, decide_eq_true_eq, decide_eq_false_iff_not, Bool.not_eq_true', Bool.not_eq_false', ne_eq, Classical.not_not, Bool.true_eq_false, Bool.false_eq_true, Nat.reduceAdd, false_implies, true_implies, implies_true, sizeLine_eq, Nat.reduceLeDiff, decide_true, decide_false, Bool.not_true, Bool.not_false, decide_not])
local macro_rules | `(tactic| walk_at "fm") => `(tactic| simp only [rgS_len, wip, dSeq, ixk_l, ixk_t, ixk_r, ixr_l, ixr_t, ixr_s, ixr_r, tru_n, tru_b, tru_i, tru_l, tru_t, tru_s, tru_r, its_l, its_t, its_r, gtup_t, eqk_i, eqk_b, eqk_s, eqk_t, eqk_l, len_l, len_t, len_s, len_r, int_i, int_b, sum_l, sum_r, tup_l, tup_t, tup_r, lis_l, lis_t, lis_r, lim_l, lim_t, lim_r, zip_t, zip_l, sl_l, sl_t, sl_r, dAsg, dgName, dVar, dC, dOp, dUn, dIxK, dTup, dLst, dCons, dNil, dCall, dCB, dIfS, dIf, dTestR, dTru, dRet, dRetN, dNext, dDrop, dAnd, dOr, dNot, dAndV, dOrV, dNotV, dPar, dFor, dRg1, dRg2, dItems, dgCons, dgNil, dZip, dIsi, isTy, tgOf, tab, dApp, dgSub, dLstM, dVarF, dBreak, dCont, dSl, dPart, dNoPart, dLcG, dChain, dAug, dEnum,
  qI, qI0, qNeg, qEq, qNe, qIsN, qNotN, isNone, cAbs, cMax2, cMin2, eqv_ii, eqv_bb, kFro, kMut,
  endsD, sd1, sd2, sd3, getS, getC, datas, List.length_cons, List.length_nil, List.map_cons, List.map_nil, Option.map_some, List.set_cons_zero, List.set_cons_succ, List.replicate_succ, List.replicate_zero, List.getElem?_cons_zero, List.getElem?_cons_succ, List.cons_append, List.nil_append,
  Option.some.injEq, S.d.injEq, S.ref.injEq, PyData.int.injEq, PyData.bool.injEq, PyData.list.injEq, PyData.tuple.injEq, List.cons.injEq, and_true, true_and, exists_eq_left, exists_eq_left', exists_eq_right, exists_and_left, exists_and_right, exists_const, exists_eq', exists_eq, ixk_enc0, ixk_enc1, not_true_eq_false, not_false_eq_true, and_self, enc_eq, dOk_enc, dOk_int, eqv_enc, datas_si, datas_map, intsOf_map, and_assoc, List.length_map, List.length_append, forall_const, imp_self, reduceCtorEq, false_and, and_false, decide_eq_true_eq, decide_eq_false_iff_not, Bool.not_eq_true', Bool.not_eq_false', ne_eq, Classical.not_not, Bool.true_eq_false, Bool.false_eq_true, Nat.reduceAdd, false_implies, true_implies, implies_true, sizeLine_eq, Nat.reduceLeDiff, decide_true, decide_false, Bool.not_true, Bool.not_false, decide_not])
/-! the drawing of the script -/
def Rows (row : List Int) : Prop := ∀ x ∈ row, 0 ≤ x ∧ x < 1009
theorem Rows.app {row : List Int} (h : Rows row) {x : Int} (h0 : 0 ≤ x) (h1 : x < 1009) : Rows (row ++ [x]) := fun y hy => by
  rcases List.mem_append.mp hy with z | z
  · exact h y z
  · have : y = x := by simpa using z
    subst this; exact ⟨h0, h1⟩
theorem sum_b : ∀ row : List Int, Rows row → 0 ≤ row.sum ∧ row.sum ≤ 1009 * row.length
  | [], _ => by simp
  | x :: row, h => by
    have h1 := h x List.mem_cons_self
    have h2 := sum_b row fun y hy => h y (List.mem_cons_of_mem _ hy)
    rw [List.sum_cons, List.length_cons]
    constructor <;> omega
theorem de1 {d : EndsD} {A K5 T : Option S} (n : Nat) : ∀ (lo : Int) (row : List Int) (cell : Int) (o : Option S), Rows row → row.length + n ≤ 10000 → 0 ≤ cell →
    (∀ row' cell' o, Rows row' → row'.length ≤ row.length + n → d.nx [A, some (.ref 0), K5, some (si cell'), o, T] [some (row'.map si)]) →
    forR okT (dgName 4) rd__law_deal_b1 d (rgS lo n) [A, some (.ref 0), K5, some (si cell), o, T] [some (row.map si)] := by
  induction n with
  | zero => intro lo row cell o hr hn h0 h; exact ⟨trivial, h row cell o hr (Nat.le_refl _)⟩
  | succ n ih =>
    intro lo row cell o hr hn h0 h
    rw [rgS_succ, forR_cons]
    refine ⟨trivial, ?_⟩
    unfold rd__law_deal_b1
    walk_at "fm"
    refine ⟨fun hp => ⟨by decide, by omega, cdiv_ok (n := 10) _ (by decide) (by unfold B; decide), ?_⟩, fun hp => ?_⟩
    · rw [map_app]
      refine ih _ _ _ _ (hr.app (Int.emod_nonneg _ (by decide)) (Int.emod_lt_of_pos _ (by decide))) (by simp; omega) (Int.ediv_nonneg h0 (by decide)) fun row' cell' o h1 h2 => h _ _ _ h1 ?_
      simp at h2
      omega
    · exact ih _ _ _ _ hr (by omega) h0 fun row' cell' o h1 h2 => h _ _ _ h1 (by omega)
theorem de2 {d : EndsD} {A K5 T : Option S} (n : Nat) : ∀ (lo : Int) (row : List Int) (cell : Int) (o : Option S), Rows row → row.length + n ≤ 10000 → B 60 cell →
    (∀ row' cell' o, Rows row' → row'.length ≤ row.length + n → d.nx [A, some (.ref 0), K5, some (si cell'), o, T] [some (row'.map si)]) →
    forR okT (dgName 4) rd__law_deal_b2 d (rgS lo n) [A, some (.ref 0), K5, some (si cell), o, T] [some (row.map si)] := by
  induction n with
  | zero => intro lo row cell o hr hn h0 h; exact ⟨trivial, h row cell o hr (Nat.le_refl _)⟩
  | succ n ih =>
    intro lo row cell o hr hn h0 h
    rw [rgS_succ, forR_cons]
    refine ⟨trivial, ?_⟩
    unfold rd__law_deal_b2
    walk_at "fm"
    refine ⟨h0.cm (m := 15) (by unfold B; decide), by decide, cdiv_ok (n := 3) _ (by decide) (by unfold B; decide), by decide, by omega, ?_⟩
    rw [map_app]
    have c0 := Int.emod_nonneg (cell * 16807 + 12345 + lo) (show (2147483647 : Int) ≠ 0 by decide)
    have c1 := Int.emod_lt_of_pos (cell * 16807 + 12345 + lo) (show (0 : Int) < 2147483647 by decide)
    refine ih _ _ _ _ (hr.app (Int.emod_nonneg _ (by decide)) (Int.emod_lt_of_pos _ (by decide))) (by simp; omega) (by unfold B; omega) fun row' cell' o h1 h2 => h _ _ _ h1 ?_
    simp at h2
    omega
theorem de3 {d : EndsD} {ns : List Int} {T : Option S} (n : Nat) : ∀ (lo : Nat) (row : List Int) (o2 o3 o4 : Option S), Rows row → row.length ≤ 40 * lo → lo + n ≤ 63 → lo + n ≤ ns.length →
    (∀ row' o2 o3 o4, Rows row' → row'.length ≤ 40 * (lo + n) → d.nx [some (.d (.list (ns.map PyData.int))), some (.ref 0), o2, o3, o4, T] [some (row'.map si)]) →
    forR okT (dgName 2) rd__law_deal_b3 d (rgS lo n) [some (.d (.list (ns.map PyData.int))), some (.ref 0), o2, o3, o4, T] [some (row.map si)] := by
  induction n with
  | zero => intro lo row o2 o3 o4 hr hl hn hs h; exact ⟨trivial, h row o2 o3 o4 hr (by omega)⟩
  | succ n ih =>
    intro lo row o2 o3 o4 hr hl hn hs h
    rw [rgS_succ, forR_cons]
    refine ⟨trivial, ?_⟩
    have hlt : lo < ns.length := by omega
    have next : ∀ row' o2 o3 o4, Rows row' → row'.length ≤ row.length + 40 → forR okT (dgName 2) rd__law_deal_b3 d (rgS ((lo : Int) + 1) n) [some (.d (.list (ns.map PyData.int))), some (.ref 0), o2, o3, o4, T] [some (row'.map si)] := fun row' o2 o3 o4 h1 h2 => by
      refine ih (lo + 1) row' o2 o3 o4 h1 (by omega) (by omega) (by omega) fun row' o2 o3 o4 h1 h2 => h _ _ _ _ h1 (by omega)
    generalize forR okT (dgName 2) rd__law_deal_b3 d (rgS ((lo : Int) + 1) n) = FR at next ⊢
    unfold rd__law_deal_b3
    walk_at "fm"
    refine ⟨.int ns[lo], atI_nat (by simp [hlt]), ?_⟩
    walk_at "fm"
    generalize ns[lo] = z
    have e : (if z < 0 then -z else z) = (z.natAbs : Int) := by split <;> omega
    rw [e]
    refine ⟨by unfold CPow; decide, fun hb => ⟨by decide, by decide, ?_⟩, fun hb => ?_⟩
    · refine de1 40 0 row _ _ hr (by omega) (by omega) fun row' cell' o h1 h2 => next _ _ _ _ h1 h2
    · have hb' : (z.natAbs : Int) < 10 ^ 18 := by
        have : (10 : Int) ^ Int.toNat 18 = 10 ^ 18 := rfl
        omega
      have bz : B 60 (z.natAbs : Int) := by unfold B; omega
      have c0 := Int.emod_nonneg (z.natAbs : Int) (show (2147483629 : Int) ≠ 0 by decide)
      have c1 := Int.emod_lt_of_pos (z.natAbs : Int) (show (0 : Int) < 2147483629 by decide)
      have bm : B 31 ((z.natAbs : Int) % 2147483629) := by unfold B; omega
      have bl : B 6 (lo : Int) := by unfold B; omega
      refine ⟨by decide, bm.cm (m := 16) (by unfold B; decide), bl.cm (m := 17) (by unfold B; decide), by decide, by decide, ?_⟩
      refine de2 5 0 row _ _ hr (by omega) ?_ fun row' cell' o h1 h2 => next _ _ _ _ h1 (by omega)
      unfold B
      omega
theorem m__law_deal : ∀ xs cs R, xs.length = 1 → Okc cs.length cs → T__law_deal xs cs R → rd__law_deal (endsD cs.length R) (startD 6 xs) cs := by
  rintro xs cs R hl hc ⟨rfl, ns, rfl, hn, h⟩
  unfold rd__law_deal
  walk_at "fm"
  rw [if_neg (show ¬ (63 : Int) < (ns.length : Int) by omega), Int.toNat_natCast]
  refine ⟨by omega, by omega, ?_⟩
  refine de3 ns.length 0 [] none none none (fun x hx => by simp at hx) (by simp) (by omega) (by omega) fun row o2 o3 o4 hr hl => ?_
  have hs := sum_b row hr
  walk_at "fm"
  refine ⟨row.map PyData.int, by simp, rt_l ?_⟩
  exact h row (row.sum + (ns.length : Int)) ⟨by omega, fun x hx => (hr x hx).1, by omega, by omega, by omega, by omega⟩
/-! equal data -/
theorem sa_turns {d : EndsD} {cs : Sto} {ds : List PyData} {A Bq : S} {N : Nat} (hA : ∀ (i : Int) (R : RK), (∃ x, atI ds i = some x ∧ R (.d x) cs) → dIxR A (si i) cs R) (hB : ∀ (i : Int) (R : RK), (∃ x, atI ds i = some x ∧ R (.d x) cs) → dIxR Bq (si i) cs R)
    (hd : ∀ x ∈ ds, dOk N x = true) (n : Nat) : ∀ (lo : Nat) (o : Option S), lo + n = ds.length → (∀ o, d.nx [some A, some Bq, o] cs) →
    forR okT (dgName 2) (rd__law_same_b1 (T__law_sameN N)) d (rgS lo n) [some A, some Bq, o] cs := by
  induction n with
  | zero => intro lo o hl h; exact ⟨trivial, h o⟩
  | succ n ih =>
    intro lo o hl h
    rw [rgS_succ, forR_cons]
    refine ⟨trivial, ?_⟩
    have next := fun o => ih (lo + 1) o (by omega) h
    have el : ((lo + 1 : Nat) : Int) = (lo : Int) + 1 := by omega
    rw [el] at next
    generalize forR okT (dgName 2) (rd__law_same_b1 (T__law_sameN N)) d (rgS ((lo : Int) + 1) n) = FR at next ⊢
    have hlt : lo < ds.length := by omega
    have e : atI ds (lo : Int) = some ds[lo] := atI_nat (by simp [hlt])
    unfold rd__law_same_b1 T__law_sameN
    simp only [dIfS, dNot, dTru, dCall, dCons, dNil, dOp, dVar, getS, dgName, List.set_cons_succ, List.set_cons_zero, Option.some.injEq, exists_eq_left']
    refine hA _ _ ⟨_, e, hB _ _ ⟨_, e, ?_⟩⟩
    refine ⟨rfl, _, rfl, hd _ (List.getElem_mem hlt), ?_⟩
    walk_at "fm"
    exact next _
theorem m__law_sameN (N : Nat) : ∀ xs cs R, xs.length = 2 → Okc cs.length cs → T__law_sameN (N + 1) xs cs R → rd__law_same (T__law_sameN N) (endsD cs.length R) (startD 3 xs) cs := by
  rintro xs cs R hl hc ⟨d, rfl, hd, h⟩
  unfold rd__law_same
  cases d with
  | none => walk_at "fm"; exact rt_l h
  | bool b =>
    walk_at "fm"
    refine rt_l ?_
    simpa using h
  | int i => walk_at "fm"; exact rt_l h
  | str s => 
    walk_at "fm"
    refine rt_l ?_
    rw [eqv_ss]
    simpa using h
  | list ds =>
    have hd' : ds.all (dOk N) = true ∧ ds.length ≤ 1000000 := by simpa [dOk] using hd
    walk_at "fm"
    rw [Int.toNat_natCast]
    refine ⟨by omega, by omega, ?_⟩
    refine sa_turns (A := .d (.list ds)) (Bq := .d (.list ds)) (ds := ds) (fun i R h => ?_) (fun i R h => ?_) (List.all_eq_true.mp hd'.1) ds.length 0 none (by omega) fun o => ?_
    · obtain ⟨x, e, q⟩ := h; exact ⟨i, x, rfl, e, q⟩
    · obtain ⟨x, e, q⟩ := h; exact ⟨i, x, rfl, e, q⟩
    · walk_at "fm"
      exact rt_l h
  | tuple ds =>
    have hd' : ds.all (dOk N) = true ∧ ds.length ≤ 1000000 := by simpa [dOk] using hd
    walk_at "fm"
    rw [Int.toNat_natCast]
    refine ⟨by omega, by omega, ?_⟩
    refine sa_turns (A := .d (.tuple ds)) (Bq := .d (.tuple ds)) (ds := ds) (fun i R h => ?_) (fun i R h => ?_) (List.all_eq_true.mp hd'.1) ds.length 0 none (by omega) fun o => ?_
    · obtain ⟨x, e, q⟩ := h; exact ⟨i, x, rfl, e, q⟩
    · obtain ⟨x, e, q⟩ := h; exact ⟨i, x, rfl, e, q⟩
    · walk_at "fm"
      exact rt_l h
  | dict kvs => simp [dOk] at hd
theorem m__law_two_right : ∀ xs cs R, xs.length = 2 → Okc cs.length cs → T__law_two_right xs cs R → rd__law_two_right (endsD cs.length R) (startD 2 xs) cs := by
  rintro xs cs R hl hc ⟨r, t, rfl, hr, ht, h⟩
  unfold rd__law_two_right T__law_same T_added T__law_plus T_less T__law_minus T_times T__law_mult T_opposite T_over T__law_over T_compare T__law_order T__law_sameN T_added T_less T_times T_over T_compare
  have h3 : RB 3000 r := hr.mono (by decide)
  have h4 : RB 3000 t := ht.mono (by decide)
  have hc : cmpR r r = 0 := by unfold cmpR; simp [Rat.lt_irrefl]
  walk_at "fm"
  simp only [h3, h4, hc, true_and]
  exact ⟨rfl, fun e => ⟨fun z => e (by rw [z]; rfl), fun z => e (by rw [z]; rfl), rt_l h⟩, fun _ => rt_l h⟩
theorem ju_turns {d : EndsD} {cs : Sto} {P Q W L : Option S} : ∀ (ps : List (Int × Int)) (o : Option S), (∀ p ∈ ps, B 3000 p.1 ∧ B 3000 p.2) → (∀ o, d.nx [P, Q, W, L, o] cs) →
    forR okT (dgName 4) rd__law_judged_b1 d (ps.map fun p => S.d (.tuple [.int p.1, .int p.2])) [P, Q, W, L, o] cs
  | [], o, _, h => ⟨trivial, h o⟩
  | p :: ps, o, hp, h => by
    rw [List.map_cons, forR_cons]
    refine ⟨trivial, ?_⟩
    have next := fun o => ju_turns ps o (fun q hq => hp q (List.mem_cons_of_mem _ hq)) h
    generalize forR okT (dgName 4) rd__law_judged_b1 d (ps.map fun p => S.d (.tuple [.int p.1, .int p.2])) = FR at next ⊢
    have hb := hp p List.mem_cons_self
    unfold rd__law_judged_b1 T__law_bool T_is_ratio T__law_is_lowest
    walk_at "fm"
    exact ⟨hb.1, hb.2, next _⟩
theorem m__law_judged : ∀ xs cs R, xs.length = 3 → Okc cs.length cs → T__law_judged xs cs R → rd__law_judged (endsD cs.length R) (startD 5 xs) cs := by
  rintro xs cs R hl hc ⟨p, q, b, rfl, hp, hq, hb, h⟩
  unfold rd__law_judged
  walk_at "fm"
  have c1 := hp.cm hb
  have c2 := hq.cm hb
  have m1 : B 3000 (p * b) := (hp.mul hb).mono (by decide)
  have m2 : B 3000 (q * b) := (hq.mul hb).mono (by decide)
  have p3 : B 3000 p := hp.mono (by decide)
  have q3 : B 3000 q := hq.mono (by decide)
  have b3 : B 3000 b := hb.mono (by decide)
  have lit : ∀ i : Int, B 3 i → B 3000 i := fun i h => h.mono (by decide)
  have z0 : B 3000 0 := lit 0 (by unfold B; decide)
  have z1 : B 3000 1 := lit 1 (by unfold B; decide)
  have z2 : B 3000 2 := lit 2 (by unfold B; decide)
  have qa : B 3000 (if q < 0 then -q else q) := by split; exact q3.neg; exact q3
  simp only [c1, c2, true_and]
  refine ju_turns [(p, q), (p * b, q * b), (p, -q), (p * b, q), (p, q * b), (0, if q < 0 then -q else q), (p, 0), (0, 1), (b, 1), (1, b), (2, 2)] none ?_ fun o => ?_
  · intro x hx
    simp only [List.mem_cons, List.not_mem_nil, or_false] at hx
    rcases hx with rfl | rfl | rfl | rfl | rfl | rfl | rfl | rfl | rfl | rfl | rfl
    · exact ⟨p3, q3⟩
    · exact ⟨m1, m2⟩
    · exact ⟨p3, q3.neg⟩
    · exact ⟨m1, q3⟩
    · exact ⟨p3, m2⟩
    · exact ⟨z0, qa⟩
    · exact ⟨p3, z0⟩
    · exact ⟨z0, z1⟩
    · exact ⟨b3, z1⟩
    · exact ⟨z1, b3⟩
    · exact ⟨z2, z2⟩
  · walk_at "fm"
    exact rt_l h
end K02

set_option Elab.async false
set_option linter.all false
set_option maxRecDepth 100000
set_option maxHeartbeats 2000000
namespace K02
open PySem L2 FL FR
local macro_rules | `(tactic| walk_at "fl") => `(tactic| simp only [dSeq, dAsg, dgName, dVar, dC, dOp, dUn, dIxK, ixkR, itemsR, dTup, dLst, dCons, dNil, dCall, dCB, dIfS, dIf, dTestR, dTru, dTruR, dRet, dRetN, dNext, dDrop, dAnd, dOr, dNot, dAndV, dOrV, dNotV, dPar, dFor, dRg1, dRg2, dItems, dgTup, dgCons, dgNil, dZip, dZipR, dIsi, isTy, tgOf, tab, dApp, dgSub, dLstM, dVarF, dBreak, dCont, dSl, dSlR, dPart, dNoPart, dLcG, dChain, dAug, dEnum,
  qI, qI0, qNeg, qEq, qNe, qIsN, qNotN, isNone, eqOk, dIxR, cAbs, cInt, cLen, cSum, cMax2, cMin2, cTup, cList, cListM, eqv_ii, eqv_bb, kFro, kMut,
  endsD, sd1, sd2, sd3, getS, getC, datas, List.length_cons, List.length_nil, List.map_cons, List.map_nil, Option.map_some, List.set_cons_zero, List.set_cons_succ, List.replicate_succ, List.replicate_zero, List.getElem?_cons_zero, List.getElem?_cons_succ, List.cons_append, List.nil_append,
  Option.some.injEq, S.d.injEq, S.ref.injEq, PyData.int.injEq, PyData.bool.injEq, PyData.list.injEq, PyData.tuple.injEq, List.cons.injEq, and_true, true_and, exists_eq_left, exists_eq_left', exists_eq_right, exists_and_left, exists_and_right, exists_const, forall_const, imp_self, reduceCtorEq, false_and, and_false, decide_eq_true_eq, decide_eq_false_iff_not, Bool.not_eq_true', Bool.not_eq_false', ne_eq, Classical.not_not, Bool.true_eq_false, Bool.false_eq_true, Nat.reduceAdd, false_implies, true_implies, implies_true, sizeLine_eq, Nat.reduceLeDiff, decide_true, decide_false, Bool.not_true, Bool.not_false, decide_not])
local macro_rules | `(tactic| walk_at "fm") => `(tactic| simp only [rgS_len, wip, dSeq, ixk_l, ixk_t, ixk_r, ixr_l, ixr_t, ixr_s, ixr_r, tru_n, tru_b, tru_i, tru_l, tru_t, tru_s, tru_r, its_l, its_t, its_r, gtup_t, eqk_i, eqk_b, eqk_s, eqk_t, eqk_l, len_l, len_t, len_s, len_r, int_i, int_b, sum_l, sum_r, tup_l, tup_t, tup_r, lis_l, lis_t, lis_r, lim_l, lim_t, lim_r, zip_t, zip_l, sl_l, sl_t, sl_r, dAsg, dgName, dVar, dC, dOp, dUn, dIxK, dTup, dLst, dCons, dNil, dCall, dCB, dIfS, dIf, dTestR, dTru, dRet, dRetN, dNext, dDrop, dAnd, dOr, dNot, dAndV, dOrV, dNotV, dPar, dFor, dRg1, dRg2, dItems, dgCons, dgNil, dZip, dIsi, isTy, tgOf, tab, dApp, dgSub, dLstM, dVarF, dBreak, dCont, dSl, dPart, dNoPart, dLcG, dChain, dAug, dEnum,
  qI, qI0, qNeg, qEq, qNe, qIsN, qNotN, isNone, cAbs, cMax2, cMin2, eqv_ii, eqv_bb, kFro, kMut,
  endsD, sd1, sd2, sd3, getS, getC, datas, List.length_cons, List.length_nil, List.map_cons, List.map_nil, Option.map_some, List.set_cons_zero, List.set_cons_succ, List.replicate_succ, List.replicate_zero, List.getElem?_cons_zero, List.getElem?_cons_succ, List.cons_append, List.nil_append,
  Option.some.injEq, S.d.injEq, S.ref.injEq, PyData.int.injEq, PyData.bool.injEq, PyData.list.injEq, PyData.tuple.injEq, List.cons.injEq, and_true, true_and, exists_eq_left, exists_eq_left', exists_eq_right, exists_and_left, exists_and_right, exists_const, exists_eq', exists_eq, ixk_enc0, ixk_enc1, not_true_eq_false, not_false_eq_true, and_self, enc_eq, dOk_enc, dOk_int, eqv_enc, datas_si, datas_map, intsOf_map, and_assoc, List.length_map, List.length_append, forall_const, imp_self, reduceCtorEq, false_and, and_false, decide_eq_true_eq, decide_eq_false_iff_not, Bool.not_eq_true', Bool.not_eq_false', ne_eq, Classical.not_not, Bool.true_eq_false, Bool.false_eq_true, Nat.reduceAdd, false_implies, true_implies, implies_true, sizeLine_eq, Nat.reduceLeDiff, decide_true, decide_false, Bool.not_true, Bool.not_false, decide_not])
theorem h__law_same0 : ∀ xs cs R, ¬ T__law_sameN 0 xs cs R := fun xs cs R ⟨d, _, h, _⟩ => by simp [dOk] at h
theorem DS_len (row : List Int) (total pos : Int) (gs : Sto) : (DS row total pos gs).length = gs.length + 3 := rfl
theorem DS_app (row : List Int) (total pos : Int) (gs hs : Sto) : DS row total pos gs ++ hs = DS row total pos (gs ++ hs) := rfl
theorem DS_get (row : List Int) (total pos : Int) (gs : Sto) (n : Nat) : getC (DS row total pos gs) (n + 3) = getC gs n := rfl
theorem DS_set (row : List Int) (total pos : Int) (gs : Sto) (n : Nat) (x : Option (List S)) : (DS row total pos gs).set (n + 3) x = DS row total pos (gs.set n x) := rfl
theorem DS_get0 (row : List Int) (total pos : Int) (x : Option (List S)) (gs : Sto) : getC (DS row total pos (x :: gs)) 3 = x := rfl
theorem DS_get1 (row : List Int) (total pos : Int) (x y : Option (List S)) (gs : Sto) : getC (DS row total pos (x :: y :: gs)) 4 = y := rfl
theorem DS_set0 (row : List Int) (total pos : Int) (x z : Option (List S)) (gs : Sto) : (DS row total pos (x :: gs)).set 3 z = DS row total pos (z :: gs) := rfl
theorem DS_set1 (row : List Int) (total pos : Int) (x y z : Option (List S)) (gs : Sto) : (DS row total pos (x :: y :: gs)).set 4 z = DS row total pos (x :: z :: gs) := rfl
theorem datas_sr (ws : List Rat) : datas (ws.map sr) = some (ws.map encR) := by
  have := datas_map (ws.map encR)
  rw [List.map_map] at this
  exact this
theorem cut_last {α : Type} (xs : List α) : cutD xs none (some (-1)) = xs.dropLast := by
  have h1 : HT.sIx xs.length 0 none = 0 := rfl
  have h2 : HT.sIx xs.length xs.length (some (-1)) = xs.length - 1 := by
    unfold HT.sIx
    simp
    omega
  unfold cutD
  rw [h1, h2, List.drop_zero, Nat.sub_zero, List.dropLast_eq_take]
theorem at_last {α : Type} {xs : List α} {x : α} : atI (xs ++ [x]) (-1) = some x := atI_last xs x
/-! the drawn rows -/
theorem co1 {row : List Int} {total : Int} {gs : Sto} {k : List S → Sto → Prop} {ρ : Ev} (hρ : getS ρ 0 = some (.ref 2)) (hρ2 : ∀ x, getS (ρ.set 5 x) 0 = some (.ref 2)) (n : Nat) : ∀ (lo pos : Int) (ws : List Rat), Deal row total pos → pos + 2 * n < 2 ^ 39 → (∀ w ∈ ws, RB 10 w) →
    (∀ ws' : List Rat, ws'.length = ws.length + n → (∀ w ∈ ws', RB 10 w) → k (ws'.map sr) (DS row total (pos + 2 * n) gs)) →
    compR okT (dgName 5) dYes rd__law_rows_right_e1 ρ k (rgS lo n) (ws.map sr) (DS row total pos gs) := by
  induction n with
  | zero =>
    intro lo pos ws D hp hw h
    have := h ws rfl hw
    rw [show pos + 2 * ((0 : Nat) : Int) = pos by omega] at this
    exact ⟨trivial, this⟩
  | succ n ih =>
    intro lo pos ws D hp hw h
    rw [rgS_succ]
    refine ⟨trivial, ?_⟩
    unfold rd__law_rows_right_e1 T__law_take T__law_ratio
    simp only [dgName, dYes, dCall, dCons, dNil, dOp, dVar, dC, hρ2, qI0, Option.some.injEq, exists_eq_left', List.length_cons, List.length_nil]
    refine ⟨fun _ => ?_, fun z => by cases z⟩
    walk_at "fm"
    refine ⟨row, total, pos, gs, rfl, D, by decide, fun v v0 v1 => ⟨row, total, pos + 1, gs, rfl, D.next (by omega) (by omega), by decide, fun u u0 u1 => ⟨by omega, ?_, ?_, ?_⟩⟩⟩
    · unfold B; omega
    · unfold B; omega
    · have b1 : B 10 (v - 4) := by unfold B; omega
      have b2 : B 10 (1 + u) := by unfold B; omega
      have e : ws.map sr ++ [sr (Rat.divInt (v - 4) (1 + u))] = (ws ++ [Rat.divInt (v - 4) (1 + u)]).map sr := by simp
      rw [e]
      refine ih _ (pos + 1 + 1) _ (D.next (by omega) (by omega)) (by omega) ?_ fun ws' hl hw' => ?_
      · intro w hm
        rcases List.mem_append.mp hm with z | z
        · exact hw w z
        · have : w = Rat.divInt (v - 4) (1 + u) := by simpa using z
          rw [this]
          exact divInt_b (by omega) b1 b2
      · have := h ws' (by simp at hl; omega) hw'
        rw [show pos + 2 * ((n + 1 : Nat) : Int) = pos + 1 + 1 + 2 * (n : Int) by omega] at this
        exact this
theorem co2 {row : List Int} {total : Int} {gs : Sto} {k : List S → Sto → Prop} {ρ : Ev} (hρ : getS ρ 0 = some (.ref 2)) (hρ2 : ∀ x, getS (ρ.set 5 x) 0 = some (.ref 2)) (n : Nat) : ∀ (lo pos : Int) (ws : List Rat), Deal row total pos → pos + 2 * n < 2 ^ 39 → (∀ w ∈ ws, RB 10 w) →
    (∀ ws' : List Rat, ws'.length = ws.length + n → (∀ w ∈ ws', RB 10 w) → k (ws'.map sr) (DS row total (pos + 2 * n) gs)) →
    compR okT (dgName 5) dYes rd__law_rows_right_e2 ρ k (rgS lo n) (ws.map sr) (DS row total pos gs) := by
  induction n with
  | zero =>
    intro lo pos ws D hp hw h
    have := h ws rfl hw
    rw [show pos + 2 * ((0 : Nat) : Int) = pos by omega] at this
    exact ⟨trivial, this⟩
  | succ n ih =>
    intro lo pos ws D hp hw h
    rw [rgS_succ]
    refine ⟨trivial, ?_⟩
    unfold rd__law_rows_right_e2 T__law_take T__law_ratio
    simp only [dgName, dYes, dCall, dCons, dNil, dOp, dVar, dC, hρ2, qI0, Option.some.injEq, exists_eq_left', List.length_cons, List.length_nil]
    refine ⟨fun _ => ?_, fun z => by cases z⟩
    walk_at "fm"
    refine ⟨row, total, pos, gs, rfl, D, by decide, fun v v0 v1 => ⟨row, total, pos + 1, gs, rfl, D.next (by omega) (by omega), by decide, fun u u0 u1 => ⟨by omega, ?_, ?_, ?_⟩⟩⟩
    · unfold B; omega
    · unfold B; omega
    · have b1 : B 10 (v - 6) := by unfold B; omega
      have b2 : B 10 (1 + u) := by unfold B; omega
      have e : ws.map sr ++ [sr (Rat.divInt (v - 6) (1 + u))] = (ws ++ [Rat.divInt (v - 6) (1 + u)]).map sr := by simp
      rw [e]
      refine ih _ (pos + 1 + 1) _ (D.next (by omega) (by omega)) (by omega) ?_ fun ws' hl hw' => ?_
      · intro w hm
        rcases List.mem_append.mp hm with z | z
        · exact hw w z
        · have : w = Rat.divInt (v - 6) (1 + u) := by simpa using z
          rw [this]
          exact divInt_b (by omega) b1 b2
      · have := h ws' (by simp at hl; omega) hw'
        rw [show pos + 2 * ((n + 1 : Nat) : Int) = pos + 1 + 1 + 2 * (n : Int) by omega] at this
        exact this

theorem dot_app (ws ts : List Rat) (w t : Rat) (h : ws.length = ts.length) : dot (ws ++ [w]) (ts ++ [t]) = dot ws ts + w * t := by
  unfold dot
  rw [List.zipWith_append h, List.foldl_append]
  rfl
/-- the law's own sum, place by place -/
theorem su_turns {d : EndsD} {row : List Int} {total pos : Int} {ws ts : List Rat} {O1 O6 : Option S} (hw : ∀ w ∈ ws, RB 10 w) (ht : ∀ t ∈ ts, RB 150 t) (hl : ws.length = ts.length) (n : Nat) : ∀ (lo : Nat) (r : Rat) (m : Nat) (o : Option S), lo + n = ws.length → RB m r → m + 161 * n ≤ 3000 →
    (∀ o, d.nx [some (.ref 2), O1, some (.ref 3), some (.ref 4), some (sr ((List.zipWith (· * ·) (ws.drop lo) (ts.drop lo)).foldl (· + ·) r)), o, O6] (DS row total pos [some (ws.map sr), some (ts.map sr)])) →
    forR okT (dgName 5) rd__law_rows_right_b1 d (rgS lo n) [some (.ref 2), O1, some (.ref 3), some (.ref 4), some (sr r), o, O6] (DS row total pos [some (ws.map sr), some (ts.map sr)]) := by
  induction n with
  | zero =>
    intro lo r m o hlo hr hm h
    have e : ws.drop lo = [] := List.drop_eq_nil_of_le (by omega)
    rw [e] at h
    exact ⟨trivial, h o⟩
  | succ n ih =>
    intro lo r m o hlo hr hm h
    rw [rgS_succ, forR_cons]
    refine ⟨trivial, ?_⟩
    have h1 : lo < ws.length := by omega
    have h2 : lo < ts.length := by omega
    have w10 := hw ws[lo] (List.getElem_mem h1)
    have t150 := ht ts[lo] (List.getElem_mem h2)
    rw [List.drop_eq_getElem_cons h1, List.drop_eq_getElem_cons h2, List.zipWith_cons_cons, List.foldl_cons] at h
    have next := fun o => ih (lo + 1) (r + ws[lo] * ts[lo]) (m + 161) o (by omega) (hr.add (w10.mul t150)) (by omega) h
    have el : ((lo + 1 : Nat) : Int) = (lo : Int) + 1 := by omega
    rw [el] at next
    generalize forR okT (dgName 5) rd__law_rows_right_b1 d (rgS ((lo : Int) + 1) n) = FR at next ⊢
    have a1 : atI (ws.map sr) (lo : Int) = some (sr ws[lo]) := atI_nat (by simp [h1])
    have a2 : atI (ts.map sr) (lo : Int) = some (sr ts[lo]) := atI_nat (by simp [h2])
    unfold rd__law_rows_right_b1 T__law_plus T__law_mult T_added T_times
    walk_at "fm"
    refine ⟨_, rfl, _, a1, _, rfl, _, a2, ?_⟩
    walk_at "fm"
    exact ⟨w10.mono (by decide), t150.mono (by decide), hr.mono (by omega), (w10.mul t150).mono (by decide), next _⟩
local macro_rules | `(tactic| walk_at "ds") => `(tactic| simp only [DS_len, DS_app, DS_get0, DS_get1, DS_set0, DS_set1, List.length_nil, List.length_cons, List.nil_append, List.cons_append, Nat.reduceAdd, Nat.zero_add, Option.some.injEq, exists_eq_left', exists_eq', true_and, List.length_map])
theorem dot_b : ∀ (ws ts : List Rat) (r : Rat) (n : Nat), (∀ w ∈ ws, RB 10 w) → (∀ t ∈ ts, RB 150 t) → RB n r → RB (n + 161 * ws.length) ((List.zipWith (· * ·) ws ts).foldl (· + ·) r)
  | [], _, r, n, _, _, hr => by simpa using hr
  | _ :: _, [], r, n, _, _, hr => by simp; exact hr.mono (by omega)
  | w :: ws, t :: ts, r, n, hw, ht, hr => by
    rw [List.zipWith_cons_cons, List.foldl_cons, List.length_cons]
    exact (dot_b ws ts (r + w * t) (n + 161) (fun x h => hw x (List.mem_cons_of_mem _ h)) (fun x h => ht x (List.mem_cons_of_mem _ h)) (hr.add ((hw w List.mem_cons_self).mul (ht t List.mem_cons_self)))).mono (by omega)
theorem m__law_rows_right : ∀ xs cs R, xs.length = 1 → Okc cs.length cs → T__law_rows_right xs cs R → rd__law_rows_right (endsD cs.length R) (startD 7 xs) cs := by
  rintro xs cs R hl hc ⟨row, total, pos, rfl, rfl, D, hp, h⟩
  unfold rd__law_rows_right T__law_take T__law_ratio T__law_number T__law_other T__law_mult T_times T_blended T__law_same T__law_sameN T__law_minus T_less
  walk_at "fm"
  refine ⟨row, total, pos, [], rfl, D, by decide, fun many m0 m1 => ⟨by omega, by omega, by omega, ?_⟩⟩
  refine co1 rfl (fun x => rfl) many.toNat 0 (pos + 1) [] (D.next (by omega) (by omega)) (by omega) (fun w hw => by simp at hw) fun ws hlw hw => ?_
  walk_at "ds"
  refine ⟨by omega, by omega, by omega, ?_⟩
  refine co2 rfl (fun x => rfl) many.toNat 0 _ [] (D.next (by omega) (by omega)) (by omega) (fun w hw => by simp at hw) fun ts hlt ht => ?_
  simp only [List.length_nil, Nat.zero_add] at hlw hlt
  walk_at "ds"
  refine ⟨row, total, _, _, rfl, D.next (by omega) (by omega), by decide, fun v v0 v1 => ?_⟩
  walk_at "ds"
  refine ⟨by omega, row, total, _, _, rfl, D.next (by omega) (by omega), by omega, fun p q hp' h0 h1 => ?_⟩
  refine ⟨row, total, _, _, rfl, D.next (by omega) (by omega), by omega, fun q' p2 hq0 hq' h2 h3 => ?_⟩
  refine ⟨hq0, hp'.mono (by decide), hq'.mono (by decide), ?_⟩
  walk_at "ds"
  refine ⟨by omega, ?_⟩
  obtain ⟨w, ew⟩ : ∃ w : Rat, w = ((v : Int) : Rat) := ⟨_, rfl⟩
  obtain ⟨t, et⟩ : ∃ t : Rat, t = Rat.divInt p q' := ⟨_, rfl⟩
  have e1 : S.d (PyData.tuple [PyData.int v, PyData.int 1]) = sr w := by rw [ew]; rfl
  have bw : RB 10 w := by
    rw [ew]
    refine ⟨?_, ?_⟩
    · show v.natAbs < 2 ^ 10
      omega
    · show 1 < 2 ^ 10
      decide
  have bt : RB 150 t := by rw [et]; exact (divInt_b hq0 hp' hq').mono (by decide)
  rw [e1, ← et]
  have hWl : (ws ++ [w]).length = (ts ++ [t]).length := by simp [hlw, hlt]
  have hW : ∀ x ∈ ws ++ [w], RB 10 x := fun x hx => by
    rcases List.mem_append.mp hx with z | z
    · exact hw x z
    · have : x = w := by simpa using z
      rw [this]; exact bw
  have hT : ∀ x ∈ ts ++ [t], RB 150 x := fun x hx => by
    rcases List.mem_append.mp hx with z | z
    · exact (ht x z).mono (by decide)
    · have : x = t := by simpa using z
      rw [this]; exact bt
  have eW : ws.map sr ++ [sr w] = (ws ++ [w]).map sr := by simp
  have eT : ts.map sr ++ [sr t] = (ts ++ [t]).map sr := by simp
  have aW : atI ((ws ++ [w]).map sr) (-1) = some (sr w) := by rw [← eW]; exact atI_last _ _
  have aT : atI ((ts ++ [t]).map sr) (-1) = some (sr t) := by rw [← eT]; exact atI_last _ _
  have lW : (ws ++ [w]).length ≤ 17 := by simp [hlw]; omega
  have dW : (ws ++ [w]).dropLast = ws := List.dropLast_concat
  have dT : (ts ++ [t]).dropLast = ts := List.dropLast_concat
  have hdot := dot_app ws ts w t (by omega)
  rw [eW, eT]
  generalize hWW : ws ++ [w] = W at *
  generalize hTT : ts ++ [t] = T at *
  have mr : ∀ l : List Rat, l.map sr = (l.map encR).map S.d := fun l => by simp
  have bd : RB 2800 (dot W T) := (dot_b W T 0 1 hW hT ⟨by decide, by decide⟩).mono (by omega)
  refine ⟨by simp, by rw [List.length_map]; omega, ?_⟩
  rw [Int.toNat_natCast, List.length_map]
  refine su_turns hW hT hWl W.length 0 0 1 none (by omega) ⟨by decide, by decide⟩ (by omega) fun o => ?_
  rw [List.drop_zero, List.drop_zero]
  show _
  rw [show (List.zipWith (· * ·) W T).foldl (· + ·) 0 = dot W T from rfl]
  walk_at "fm"
  refine ⟨_, rfl, _, aW, _, rfl, _, aT, ?_⟩
  walk_at "fm"
  refine ⟨bw.mono (by decide), bt.mono (by decide), ?_⟩
  have cW : cutD (W.map encR) none (some (-1)) = ws.map encR := by rw [cut_last, ← List.map_dropLast, dW]
  have cT : cutD (T.map encR) none (some (-1)) = ts.map encR := by rw [cut_last, ← List.map_dropLast, dT]
  refine ⟨_, rfl, W.map encR, datas_sr W, _, rfl, T.map encR, datas_sr T, W, rfl, T, rfl, hW, hT, lW, rfl, [], rfl, [], rfl, (fun w h => by simp at h), (fun w h => by simp at h), by simp, rfl, W.map encR, congrArg some (mr W), T.map encR, congrArg some (mr T),
    ws, cW, ts, cT, hw, (fun t h => (ht t h).mono (by decide)), by omega, bd.mono (by decide), (bw.mul bt).mono (by decide), ?_, rt_l (h _)⟩
  rw [hdot, Rat.add_sub_cancel]
theorem ca_b : ∀ r : Rat, RB 300 r → RB 3000 r := fun r h => h.mono (by decide)
theorem la_turns {d : EndsD} {row : List Int} {total : Int} {h : ∀ o pos, Deal row total pos → pos < 2 ^ 38 → ∀ a, d.nx (a :: some (.ref 2) :: o) (DS row total pos [])} (n : Nat) : ∀ (lo pos : Int) (a : Option S) (o : List (Option S)), o.length = 7 → Deal row total pos → pos + 200 * n < 2 ^ 38 →
    forR okT (dgName 2) rd_law_b1 d (rgS lo n) (a :: some (.ref 2) :: o) (DS row total pos []) := by
  induction n with
  | zero => intro lo pos a o hl D hp; exact ⟨trivial, h o pos D (by omega) a⟩
  | succ n ih =>
    intro lo pos a o hl D hp
    rw [rgS_succ, forR_cons]
    refine ⟨trivial, ?_⟩
    have next := fun p o' hl' (D' : Deal row total p) hp' => ih (lo + 1) p a o' hl' D' hp'
    generalize forR okT (dgName 2) rd_law_b1 d (rgS (lo + 1) n) = FR at next ⊢
    obtain ⟨o0, o1, o2, o3, o4, o5, o6, rfl⟩ : ∃ o0 o1 o2 o3 o4 o5 o6, o = [o0, o1, o2, o3, o4, o5, o6] := by
      match o, hl with
      | [o0, o1, o2, o3, o4, o5, o6], _ => exact ⟨o0, o1, o2, o3, o4, o5, o6, rfl⟩
    unfold rd_law_b1 T__law_number T__law_other T__law_ratio T__law_plus T_added T__law_same T__law_sameN T_ratio T__law_two_right T__law_judged
    walk_at "fm"
    refine ⟨row, total, pos, [], rfl, D, by omega, fun v p1 hv a1 b1 => ?_⟩
    refine ⟨row, total, p1, [], rfl, D.next a1 (by omega), by omega, fun q p2 hq0 hq a2 b2 => ?_⟩
    refine ⟨row, total, p2, [], rfl, D.next (by omega) (by omega), by omega, fun m p3 hm0 hm a3 b3 => ?_⟩
    refine ⟨hq0, hv.mono (by decide), hq.mono (by decide), ?_⟩
    refine ⟨row, total, p3, [], rfl, D.next (by omega) (by omega), by omega, fun v' p4 hv' a4 b4 => ?_⟩
    refine ⟨row, total, p4, [], rfl, D.next (by omega) (by omega), by omega, fun q' p5 hq0' hq' a5 b5 => ?_⟩
    refine ⟨hq0', hv'.mono (by decide), hq'.mono (by decide), ?_⟩
    have b1 : RB 300 (Rat.divInt v q) := (divInt_b hq0 hv hq).mono (by decide)
    have b2 : RB 300 (Rat.divInt v' q') := (divInt_b hq0' hv' hq').mono (by decide)
    obtain ⟨x, ex, bx⟩ : ∃ x : Rat, PyData.tuple [PyData.int 1, PyData.int (10 ^ Int.toNat 45)] = encR x ∧ RB 160 x := by
      have n1 : (Rat.divInt 1 (10 ^ 45)).num = 1 := by decide
      have d1 : (Rat.divInt 1 (10 ^ 45)).den = 10 ^ 45 := by decide
      refine ⟨Rat.divInt 1 (10 ^ 45), ?_, ?_, ?_⟩
      · unfold encR; rw [n1, d1]; rfl
      · rw [n1]; decide
      · rw [d1]; decide
    have b3 : RB 2000 (Rat.divInt v q + x) := (b1.add bx).mono (by decide)
    have e1 : Rat.divInt v q = Rat.divInt (v * m) (q * m) := (Rat.divInt_mul_right hm0).symm
    have e2 : PyData.tuple [PyData.int (-(Rat.divInt v q).num), PyData.int (Rat.divInt v q).den] = encR (Rat.divInt (-v) q) := by
      have : Rat.divInt (-v) q = -(Rat.divInt v q) := (Rat.neg_divInt v q).symm
      rw [this]; rfl
    exact ⟨by unfold CPow; decide, x, ex, b1.mono (by decide), bx.mono (by decide), hv.cm hm, hq.cm hm, mul_ne hq0 hm0, (hq.mul hm).mono (by decide), e1, hq0, hq.mono (by decide), e2,
      b1.mono (by decide), b2.mono (by decide), b2.mono (by decide), b1.mono (by decide), b1.mono (by decide), b3, b3, b1.mono (by decide), hv, hq, hm, next p5 _ rfl (D.next (by omega) (by omega)) (by omega)⟩
theorem m_law : ∀ xs cs R, xs.length = 1 → Okc cs.length cs → T_law xs cs R → rd_law (endsD cs.length R) (startD 9 xs) cs := by
  rintro xs cs R hl hc ⟨rfl, ns, rfl, hn, h⟩
  unfold rd_law T__law_deal
  walk_at "fm"
  refine ⟨ns, rfl, hn, fun row total D => ⟨by decide, by decide, ?_⟩⟩
  refine la_turns (h := fun o pos D' hp a => ?_) 4 0 0 _ _ rfl D (by omega)
  unfold T__law_rows_right
  walk_at "fm"
  exact ⟨row, total, pos, rfl, D', hp, fun cs' => rt_l (h cs')⟩
end K02

set_option Elab.async false
set_option linter.all false
set_option maxRecDepth 100000
set_option maxHeartbeats 4000000
namespace K02
open PySem L2 FL FR
def top (i : Nat) : Stmt := PySem.Challenge.pw_surepilot_k02_whole_ratios_of_any_size.main.body.getD i (.Pass ⟨0, 0, 0, 0⟩)
structure Txt (K : PySem.W.Frag) (mg : Str → Option Value) : Prop where
  b_abs : mg "abs" = none
  b_zip : mg "zip" = none
  b_len : mg "len" = none
  b_min : mg "min" = none
  b_range : mg "range" = none
  b_int : mg "int" = none
  b_sum : mg "sum" = none
  b_isinstance : mg "isinstance" = none
  b_tuple : mg "tuple" = none
  b_list : mg "list" = none
  b_bool : mg "bool" = none
  b_str : mg "str" = none
  c_NOTHING : GlobD K mg "NOTHING" c_NOTHING
section
variable {P : Program} {w : World} {K : PySem.W.Frag} {mg : Str → Option Value} {base : Heap}
abbrev s_greatest_divisor : Stmt := top 2
theorem sc_greatest_divisor : FnScope ["p", "q"] ["p", "q"] (defScope s_greatest_divisor) := ⟨rfl, rfl, rfl, by decide +kernel, rfl, by decide +kernel, by decide +kernel⟩
theorem ok_greatest_divisor {f : Addr} {fd : FuncData} (F : Fun K "greatest_divisor" "greatest_divisor" s_greatest_divisor f fd) (T : Txt K mg)  : FnOk P w K mg base CX0 1 f fd ["p", "q"] (spD K 2 T_greatest_divisor) := by
  refine fn_okD (k := 0) F sc_greatest_divisor rfl fun cdv A outer s H hr => ⟨rd_greatest_divisor, ?_, m_greatest_divisor⟩
  exact (ess_cons (es_while PassesOwn.never (et_ne hr.units (ee_var 1) ee_int)
    (ess_one (es_par 0 1 rfl sc_greatest_divisor.nd rfl rfl (by decide) rfl rfl (ea_cons (ee_var 1) (ea_cons (ee_mod (ee_var 0) (ee_var 1)) ea_nil)) (by rfl))))
    (ess_one (es_ret (ec_abs (by rfl) T.b_abs (ea_cons (ee_var 0) ea_nil)))))
abbrev s_ratio : Stmt := top 3
theorem sc_ratio : FnScope ["p", "q", "shared"] ["p", "q"] (defScope s_ratio) := ⟨rfl, rfl, rfl, by decide +kernel, rfl, by decide +kernel, by decide +kernel⟩
theorem ok_ratio {f : Addr} {fd : FuncData} (F : Fun K "ratio" "ratio" s_ratio f fd) (T : Txt K mg) (D_greatest_divisor : DefAt P w K mg base 1 "greatest_divisor" ["p", "q"] T_greatest_divisor) : FnOk P w K mg base CX0 2 f fd ["p", "q"] (spD K 2 T_ratio) := by
  refine fn_okD (k := 1) F sc_ratio rfl fun cdv A outer s H hr => ⟨rd_ratio, ?_, m_ratio⟩
  exact (ess_cons (es_if (et_lt (ee_var 1) ee_int)
    (ess_cons (es_set 0 sc_ratio.nd rfl (by first | exact Or.inl rfl | exact Or.inr rfl) (ee_neg (ee_var 0)))
    (ess_one (es_set 1 sc_ratio.nd rfl (by first | exact Or.inl rfl | exact Or.inr rfl) (ee_neg (ee_var 1)))))
    ess_nil)
    (ess_cons (es_set 2 sc_ratio.nd rfl (by first | exact Or.inl rfl | exact Or.inr rfl) (ee_call D_greatest_divisor hr (by decide) (by rfl) (ea_cons (ee_var 0) (ea_cons (ee_var 1) ea_nil))))
    (ess_one (es_ret (ee_tup (ea_cons (ee_div (ee_var 0) (ee_var 2)) (ea_cons (ee_div (ee_var 1) (ee_var 2)) ea_nil)))))))
abbrev s_added : Stmt := top 4
theorem sc_added : FnScope ["s", "t"] ["s", "t"] (defScope s_added) := ⟨rfl, rfl, rfl, by decide +kernel, rfl, by decide +kernel, by decide +kernel⟩
theorem ok_added {f : Addr} {fd : FuncData} (F : Fun K "added" "added" s_added f fd) (T : Txt K mg) (D_ratio : DefAt P w K mg base 2 "ratio" ["p", "q"] T_ratio) : FnOk P w K mg base CX0 3 f fd ["s", "t"] (spD K 2 T_added) := by
  refine fn_okD (k := 2) F sc_added rfl fun cdv A outer s H hr => ⟨rd_added, ?_, m_added⟩
  exact (ess_one (es_ret (ee_call D_ratio hr (by decide) (by rfl) (ea_cons (ee_add (ee_mul (ee_ixk (n := 0) rfl (ee_var 0)) (ee_ixk (n := 1) rfl (ee_var 1))) (ee_mul (ee_ixk (n := 0) rfl (ee_var 1)) (ee_ixk (n := 1) rfl (ee_var 0)))) (ea_cons (ee_mul (ee_ixk (n := 1) rfl (ee_var 0)) (ee_ixk (n := 1) rfl (ee_var 1))) ea_nil)))))
abbrev s_opposite : Stmt := top 5
theorem sc_opposite : FnScope ["t"] ["t"] (defScope s_opposite) := ⟨rfl, rfl, rfl, by decide +kernel, rfl, by decide +kernel, by decide +kernel⟩
theorem ok_opposite {f : Addr} {fd : FuncData} (F : Fun K "opposite" "opposite" s_opposite f fd) (T : Txt K mg)  : FnOk P w K mg base CX0 1 f fd ["t"] (spD K 1 T_opposite) := by
  refine fn_okD (k := 0) F sc_opposite rfl fun cdv A outer s H hr => ⟨rd_opposite, ?_, m_opposite⟩
  exact (ess_one (es_ret (ee_tup (ea_cons (ee_neg (ee_ixk (n := 0) rfl (ee_var 0))) (ea_cons (ee_ixk (n := 1) rfl (ee_var 0)) ea_nil)))))
abbrev s_less : Stmt := top 6
theorem sc_less : FnScope ["s", "t"] ["s", "t"] (defScope s_less) := ⟨rfl, rfl, rfl, by decide +kernel, rfl, by decide +kernel, by decide +kernel⟩
theorem ok_less {f : Addr} {fd : FuncData} (F : Fun K "less" "less" s_less f fd) (T : Txt K mg) (D_added : DefAt P w K mg base 3 "added" ["s", "t"] T_added) (D_opposite : DefAt P w K mg base 1 "opposite" ["t"] T_opposite) : FnOk P w K mg base CX0 4 f fd ["s", "t"] (spD K 2 T_less) := by
  refine fn_okD (k := 3) F sc_less rfl fun cdv A outer s H hr => ⟨rd_less, ?_, m_less⟩
  exact (ess_one (es_ret (ee_call D_added hr (by decide) (by rfl) (ea_cons (ee_var 0) (ea_cons (ee_call D_opposite hr (by decide) (by rfl) (ea_cons (ee_var 1) ea_nil)) ea_nil)))))
abbrev s_times : Stmt := top 7
theorem sc_times : FnScope ["s", "t"] ["s", "t"] (defScope s_times) := ⟨rfl, rfl, rfl, by decide +kernel, rfl, by decide +kernel, by decide +kernel⟩
theorem ok_times {f : Addr} {fd : FuncData} (F : Fun K "times" "times" s_times f fd) (T : Txt K mg) (D_ratio : DefAt P w K mg base 2 "ratio" ["p", "q"] T_ratio) : FnOk P w K mg base CX0 3 f fd ["s", "t"] (spD K 2 T_times) := by
  refine fn_okD (k := 2) F sc_times rfl fun cdv A outer s H hr => ⟨rd_times, ?_, m_times⟩
  exact (ess_one (es_ret (ee_call D_ratio hr (by decide) (by rfl) (ea_cons (ee_mul (ee_ixk (n := 0) rfl (ee_var 0)) (ee_ixk (n := 0) rfl (ee_var 1))) (ea_cons (ee_mul (ee_ixk (n := 1) rfl (ee_var 0)) (ee_ixk (n := 1) rfl (ee_var 1))) ea_nil)))))
abbrev s_over : Stmt := top 8
theorem sc_over : FnScope ["s", "t"] ["s", "t"] (defScope s_over) := ⟨rfl, rfl, rfl, by decide +kernel, rfl, by decide +kernel, by decide +kernel⟩
theorem ok_over {f : Addr} {fd : FuncData} (F : Fun K "over" "over" s_over f fd) (T : Txt K mg) (D_ratio : DefAt P w K mg base 2 "ratio" ["p", "q"] T_ratio) : FnOk P w K mg base CX0 3 f fd ["s", "t"] (spD K 2 T_over) := by
  refine fn_okD (k := 2) F sc_over rfl fun cdv A outer s H hr => ⟨rd_over, ?_, m_over⟩
  exact (ess_one (es_ret (ee_call D_ratio hr (by decide) (by rfl) (ea_cons (ee_mul (ee_ixk (n := 0) rfl (ee_var 0)) (ee_ixk (n := 1) rfl (ee_var 1))) (ea_cons (ee_mul (ee_ixk (n := 1) rfl (ee_var 0)) (ee_ixk (n := 0) rfl (ee_var 1))) ea_nil)))))
abbrev s_compare : Stmt := top 9
theorem sc_compare : FnScope ["s", "t", "difference"] ["s", "t"] (defScope s_compare) := ⟨rfl, rfl, rfl, by decide +kernel, rfl, by decide +kernel, by decide +kernel⟩
theorem ok_compare {f : Addr} {fd : FuncData} (F : Fun K "compare" "compare" s_compare f fd) (T : Txt K mg)  : FnOk P w K mg base CX0 1 f fd ["s", "t"] (spD K 2 T_compare) := by
  refine fn_okD (k := 0) F sc_compare rfl fun cdv A outer s H hr => ⟨rd_compare, ?_, m_compare⟩
  exact (ess_cons (es_set 2 sc_compare.nd rfl (by first | exact Or.inl rfl | exact Or.inr rfl) (ee_sub (ee_mul (ee_ixk (n := 0) rfl (ee_var 0)) (ee_ixk (n := 1) rfl (ee_var 1))) (ee_mul (ee_ixk (n := 0) rfl (ee_var 1)) (ee_ixk (n := 1) rfl (ee_var 0)))))
    (ess_cons (es_if (et_lt (ee_var 2) ee_int)
    (ess_one (es_ret (ee_neg ee_int)))
    ess_nil)
    (ess_cons (es_if (et_gt (ee_var 2) ee_int)
    (ess_one (es_ret ee_int))
    ess_nil)
    (ess_one (es_ret ee_int)))))
abbrev s_blended : Stmt := top 10
theorem sc_blended : FnScope ["weights", "ratios", "total", "weight", "t"] ["weights", "ratios"] (defScope s_blended) := ⟨rfl, rfl, rfl, by decide +kernel, rfl, by decide +kernel, by decide +kernel⟩
theorem ok_blended {f : Addr} {fd : FuncData} (F : Fun K "blended" "blended" s_blended f fd) (T : Txt K mg) (D_added : DefAt P w K mg base 3 "added" ["s", "t"] T_added) (D_times : DefAt P w K mg base 3 "times" ["s", "t"] T_times) : FnOk P w K mg base CX0 4 f fd ["weights", "ratios"] (spD K 2 T_blended) := by
  refine fn_okD (k := 3) F sc_blended rfl fun cdv A outer s H hr => ⟨rd_blended, ?_, m_blended⟩
  exact (ess_cons (es_set 2 sc_blended.nd rfl (by first | exact Or.inl rfl | exact Or.inr rfl) (ee_glob (by rfl) T.c_NOTHING))
    (ess_cons (es_for PassesOwn.never rfl (ei_zip (by rfl) T.b_zip (ea_cons (ee_var 0) (ea_cons (ee_var 1) ea_nil))) (eg_tup rfl (egs_cons (ks := [3, 4]) (eg_name (i := 3) sc_blended.nd rfl (by first | exact Or.inl rfl | exact Or.inr rfl)) (egs_cons (ks := [4]) (eg_name (i := 4) sc_blended.nd rfl (by first | exact Or.inl rfl | exact Or.inr rfl)) (egs_nil (is := [])) (by decide) (by decide)) (by decide) (by decide)))
    (ess_one (es_if (PW.pt (ew_and (et_ne hr.units (ee_var 3) (ee_glob (by rfl) T.c_NOTHING)) (ew_and1 (et_ne hr.units (ee_var 4) (ee_glob (by rfl) T.c_NOTHING)))))
    (ess_one (es_set 2 sc_blended.nd rfl (by first | exact Or.inl rfl | exact Or.inr rfl) (ee_call D_added hr (by decide) (by rfl) (ea_cons (ee_var 2) (ea_cons (ee_call D_times hr (by decide) (by rfl) (ea_cons (ee_var 3) (ea_cons (ee_var 4) ea_nil))) ea_nil)))))
    ess_nil)))
    (ess_one (es_ret (ee_var 2)))))
abbrev s_is_ratio : Stmt := top 11
theorem sc_is_ratio : FnScope ["pair"] ["pair"] (defScope s_is_ratio) := ⟨rfl, rfl, rfl, by decide +kernel, rfl, by decide +kernel, by decide +kernel⟩
theorem ok_is_ratio {f : Addr} {fd : FuncData} (F : Fun K "is_ratio" "is_ratio" s_is_ratio f fd) (T : Txt K mg) (D_greatest_divisor : DefAt P w K mg base 1 "greatest_divisor" ["p", "q"] T_greatest_divisor) : FnOk P w K mg base CX0 2 f fd ["pair"] (spD K 1 T_is_ratio) := by
  refine fn_okD (k := 1) F sc_is_ratio rfl fun cdv A outer s H hr => ⟨rd_is_ratio, ?_, m_is_ratio⟩
  exact (ess_one (es_ret (ee_and (ee_ge (ee_ixk (n := 1) rfl (ee_var 0)) ee_int) (ee_one (ee_eq hr.units (ee_call D_greatest_divisor hr (by decide) (by rfl) (ea_cons (ee_ixk (n := 0) rfl (ee_var 0)) (ea_cons (ee_ixk (n := 1) rfl (ee_var 0)) ea_nil))) ee_int)))))
abbrev s__law_deal : Stmt := top 13
theorem sc__law_deal : FnScope ["script", "row", "k", "cell", "turn", "total"] ["script"] (defScope s__law_deal) := ⟨rfl, rfl, rfl, by decide +kernel, rfl, by decide +kernel, by decide +kernel⟩
theorem ok__law_deal {f : Addr} {fd : FuncData} (F : Fun K "_law_deal" "_law_deal" s__law_deal f fd) (T : Txt K mg)  : FnOk P w K mg base CX0 1 f fd ["script"] (spD K 1 T__law_deal) := by
  refine fn_okD (k := 0) F sc__law_deal rfl fun cdv A outer s H hr => ⟨rd__law_deal, ?_, m__law_deal⟩
  exact (ess_cons (es_set 1 sc__law_deal.nd rfl (by first | exact Or.inl rfl | exact Or.inr rfl) (ee_lstM ea_nil))
    (ess_cons (es_for PassesOwn.never rfl (ei_rg1 (by rfl) T.b_range (ea_cons (ec_min2 rfl (by rfl) T.b_min (ea_cons (ec_len (by rfl) T.b_len (ea_cons (ee_var 0) ea_nil)) (ea_cons ee_int ea_nil))) ea_nil)) (eg_name (i := 2) sc__law_deal.nd rfl (by first | exact Or.inl rfl | exact Or.inr rfl))
    (ess_cons (es_set 3 sc__law_deal.nd rfl (by first | exact Or.inl rfl | exact Or.inr rfl) (ec_abs (by rfl) T.b_abs (ea_cons (ec_int (by rfl) T.b_int (ea_cons (ee_ix (ee_var 0) (ee_var 2)) ea_nil)) ea_nil)))
    (ess_one (es_if (et_ge (ee_var 3) (ee_pow ee_int ee_int))
    (ess_one (es_for PassesOwn.never rfl (ei_rg1 (by rfl) T.b_range (ea_cons ee_int ea_nil)) (eg_name (i := 4) sc__law_deal.nd rfl (by first | exact Or.inl rfl | exact Or.inr rfl))
    (ess_one (es_if (et_gt (ee_var 3) ee_int)
    (ess_cons (es_expr (ee_app (ee_var 1) (ee_mod (ee_var 3) ee_int)))
    (ess_one (es_set 3 sc__law_deal.nd rfl (by first | exact Or.inl rfl | exact Or.inr rfl) (ee_div (ee_var 3) ee_int))))
    ess_nil))))
    (ess_cons (es_set 3 sc__law_deal.nd rfl (by first | exact Or.inl rfl | exact Or.inr rfl) (ee_add (ee_add (ee_mul (ee_mod (ee_var 3) ee_int) ee_int) (ee_mul (ee_var 2) ee_int)) ee_int))
    (ess_one (es_for PassesOwn.never rfl (ei_rg1 (by rfl) T.b_range (ea_cons ee_int ea_nil)) (eg_name (i := 4) sc__law_deal.nd rfl (by first | exact Or.inl rfl | exact Or.inr rfl))
    (ess_cons (es_set 3 sc__law_deal.nd rfl (by first | exact Or.inl rfl | exact Or.inr rfl) (ee_mod (ee_add (ee_add (ee_mul (ee_var 3) ee_int) ee_int) (ee_var 4)) ee_int))
    (ess_one (es_expr (ee_app (ee_var 1) (ee_mod (ee_div (ee_var 3) ee_int) ee_int))))))))))))
    (ess_cons (es_set 5 sc__law_deal.nd rfl (by first | exact Or.inl rfl | exact Or.inr rfl) (ee_add (ec_sum rfl (by rfl) T.b_sum (ea_cons (ee_var 1) ea_nil)) (ec_len (by rfl) T.b_len (ea_cons (ee_var 0) ea_nil))))
    (ess_one (es_ret (ee_lstM (ea_cons (ee_varF 1) (ea_cons (ee_lstM (ea_cons ee_int ea_nil)) (ea_cons (ee_var 5) ea_nil)))))))))
abbrev s__law_take : Stmt := top 14
theorem sc__law_take : FnScope ["deal", "many", "at"] ["deal", "many"] (defScope s__law_take) := ⟨rfl, rfl, rfl, by decide +kernel, rfl, by decide +kernel, by decide +kernel⟩
theorem ok__law_take {f : Addr} {fd : FuncData} (F : Fun K "_law_take" "_law_take" s__law_take f fd) (T : Txt K mg)  : FnOk P w K mg base CX0 1 f fd ["deal", "many"] (spD K 2 T__law_take) := by
  refine fn_okD (k := 0) F sc__law_take rfl fun cdv A outer s H hr => ⟨rd__law_take, ?_, m__law_take⟩
  exact (ess_cons (es_set 2 sc__law_take.nd rfl (by first | exact Or.inl rfl | exact Or.inr rfl) (ee_ixk (n := 0) rfl (ee_ixk (n := 1) rfl (ee_var 0))))
    (ess_cons (es_asg (ee_add (ee_var 2) ee_int) (eg_sub (ee_ixk (n := 1) rfl (ee_var 0)) ee_int))
    (ess_cons (es_if (et_lt (ee_var 2) (ec_len (by rfl) T.b_len (ea_cons (ee_ixk (n := 0) rfl (ee_var 0)) ea_nil)))
    (ess_one (es_ret (ee_mod (ee_ix (ee_ixk (n := 0) rfl (ee_var 0)) (ee_var 2)) (ee_var 1))))
    ess_nil)
    (ess_one (es_ret (ee_mod (ee_div (ee_add (ee_add (ee_mul (ee_var 2) ee_int) (ee_mul (ee_ixk (n := 2) rfl (ee_var 0)) ee_int)) (ee_mul (ee_mul (ee_var 2) (ee_var 2)) ee_int)) ee_int) (ee_var 1)))))))
abbrev s__law_same : Stmt := top 15
theorem sc__law_same : FnScope ["a", "b", "k"] ["a", "b"] (defScope s__law_same) := ⟨rfl, rfl, rfl, by decide +kernel, rfl, by decide +kernel, by decide +kernel⟩
theorem ok__law_same {f : Addr} {fd : FuncData} {k : Nat} {Tself T2 : DSp} (hm : ∀ xs cs R, xs.length = 2 → Okc cs.length cs → T2 xs cs R → rd__law_same Tself (endsD cs.length R) (startD 3 xs) cs) (F : Fun K "_law_same" "_law_same" s__law_same f fd) (T : Txt K mg)  (Dself : DefAt P w K mg base k "_law_same" ["a", "b"] Tself) : FnOk P w K mg base CX0 (k + 1) f fd ["a", "b"] (spD K 2 T2) := by
  refine fn_okD (k := k + 0) F sc__law_same rfl fun cdv A outer s H hr => ⟨rd__law_same Tself, ?_, hm⟩
  have hj : k ≤ k + 0 := Nat.le_add_right _ _
  exact (ess_cons (es_if (PW.pt (ew_or (et_tru (ee_isi .tuple (by rfl) T.b_isinstance (by rfl) T.b_tuple (by decide +kernel) (ee_var 1))) (ew_or1 (et_tru (ee_isi .list (by rfl) T.b_isinstance (by rfl) T.b_list (by decide +kernel) (ee_var 1))))))
    (ess_cons (es_if (PW.pt (ew_or (PW.pt (ew_and (et_tru (ee_isi .tuple (by rfl) T.b_isinstance (by rfl) T.b_tuple (by decide +kernel) (ee_var 1))) (ew_and1 (et_not (et_tru (ee_isi .tuple (by rfl) T.b_isinstance (by rfl) T.b_tuple (by decide +kernel) (ee_var 0))))))) (ew_or1 (PW.pt (ew_and (et_tru (ee_isi .list (by rfl) T.b_isinstance (by rfl) T.b_list (by decide +kernel) (ee_var 1))) (ew_and1 (et_not (et_tru (ee_isi .list (by rfl) T.b_isinstance (by rfl) T.b_list (by decide +kernel) (ee_var 0))))))))))
    (ess_one (es_ret ee_bl))
    ess_nil)
    (ess_cons (es_if (et_ne hr.units (ec_len (by rfl) T.b_len (ea_cons (ee_var 0) ea_nil)) (ec_len (by rfl) T.b_len (ea_cons (ee_var 1) ea_nil)))
    (ess_one (es_ret ee_bl))
    ess_nil)
    (ess_cons (es_for PassesOwn.never rfl (ei_rg1 (by rfl) T.b_range (ea_cons (ec_len (by rfl) T.b_len (ea_cons (ee_var 1) ea_nil)) ea_nil)) (eg_name (i := 2) sc__law_same.nd rfl (by first | exact Or.inl rfl | exact Or.inr rfl))
    (ess_one (es_if (et_not (et_tru (ee_call Dself hr hj (by rfl) (ea_cons (ee_ix (ee_var 0) (ee_var 2)) (ea_cons (ee_ix (ee_var 1) (ee_var 2)) ea_nil)))))
    (ess_one (es_ret ee_bl))
    ess_nil)))
    (ess_one (es_ret ee_bl)))))
    ess_nil)
    (ess_cons (es_if (PW.pt (ew_or (et_tru (ee_isi .bool (by rfl) T.b_isinstance (by rfl) T.b_bool (by decide +kernel) (ee_var 0))) (ew_or1 (et_tru (ee_isi .bool (by rfl) T.b_isinstance (by rfl) T.b_bool (by decide +kernel) (ee_var 1))))))
    (ess_one (es_ret (ee_and (ee_isi .bool (by rfl) T.b_isinstance (by rfl) T.b_bool (by decide +kernel) (ee_var 0)) (ee_and (ee_isi .bool (by rfl) T.b_isinstance (by rfl) T.b_bool (by decide +kernel) (ee_var 1)) (ee_one (ee_eq hr.units (ee_var 0) (ee_var 1)))))))
    ess_nil)
    (ess_cons (es_if (et_tru (ee_isi .int (by rfl) T.b_isinstance (by rfl) T.b_int (by decide +kernel) (ee_var 1)))
    (ess_one (es_ret (ee_and (ee_isi .int (by rfl) T.b_isinstance (by rfl) T.b_int (by decide +kernel) (ee_var 0)) (ee_one (ee_eq hr.units (ee_var 0) (ee_var 1))))))
    ess_nil)
    (ess_cons (es_if (et_tru (ee_isi .str (by rfl) T.b_isinstance (by rfl) T.b_str (by decide +kernel) (ee_var 1)))
    (ess_one (es_ret (ee_and (ee_isi .str (by rfl) T.b_isinstance (by rfl) T.b_str (by decide +kernel) (ee_var 0)) (ee_one (ee_eq hr.units (ee_var 0) (ee_var 1))))))
    ess_nil)
    (ess_one (es_ret (ee_and (ee_isN (ee_var 0) ee_non) (ee_one (ee_isN (ee_var 1) ee_non)))))))))
abbrev s__law_bool : Stmt := top 16
theorem sc__law_bool : FnScope ["answer", "due"] ["answer", "due"] (defScope s__law_bool) := ⟨rfl, rfl, rfl, by decide +kernel, rfl, by decide +kernel, by decide +kernel⟩
theorem ok__law_bool {f : Addr} {fd : FuncData} (F : Fun K "_law_bool" "_law_bool" s__law_bool f fd) (T : Txt K mg)  : FnOk P w K mg base CX0 1 f fd ["answer", "due"] (spD K 2 T__law_bool) := by
  refine fn_okD (k := 0) F sc__law_bool rfl fun cdv A outer s H hr => ⟨rd__law_bool, ?_, m__law_bool⟩
  exact (ess_one (es_ret (ee_and (ee_isi .bool (by rfl) T.b_isinstance (by rfl) T.b_bool (by decide +kernel) (ee_var 0)) (ee_one (ee_eq hr.units (ee_var 0) (ee_var 1))))))
abbrev s__law_ratio : Stmt := top 17
theorem sc__law_ratio : FnScope ["p", "q", "a", "b", "turn"] ["p", "q"] (defScope s__law_ratio) := ⟨rfl, rfl, rfl, by decide +kernel, rfl, by decide +kernel, by decide +kernel⟩
theorem ok__law_ratio {f : Addr} {fd : FuncData} (F : Fun K "_law_ratio" "_law_ratio" s__law_ratio f fd) (T : Txt K mg)  : FnOk P w K mg base CX0 1 f fd ["p", "q"] (spD K 2 T__law_ratio) := by
  refine fn_okD (k := 0) F sc__law_ratio rfl fun cdv A outer s H hr => ⟨rd__law_ratio, ?_, m__law_ratio⟩
  exact (ess_cons (es_if (et_lt (ee_var 1) ee_int)
    (ess_cons (es_set 0 sc__law_ratio.nd rfl (by first | exact Or.inl rfl | exact Or.inr rfl) (ee_neg (ee_var 0)))
    (ess_one (es_set 1 sc__law_ratio.nd rfl (by first | exact Or.inl rfl | exact Or.inr rfl) (ee_neg (ee_var 1)))))
    ess_nil)
    (ess_cons (es_set 2 sc__law_ratio.nd rfl (by first | exact Or.inl rfl | exact Or.inr rfl) (ec_abs (by rfl) T.b_abs (ea_cons (ee_var 0) ea_nil)))
    (ess_cons (es_set 3 sc__law_ratio.nd rfl (by first | exact Or.inl rfl | exact Or.inr rfl) (ee_var 1))
    (ess_cons (es_for PassesOwn.never rfl (ei_rg1 (by rfl) T.b_range (ea_cons ee_int ea_nil)) (eg_name (i := 4) sc__law_ratio.nd rfl (by first | exact Or.inl rfl | exact Or.inr rfl))
    (ess_cons (es_if (et_eq hr.units (ee_var 2) ee_int)
    (ess_one es_break)
    ess_nil)
    (ess_one (es_par 2 3 rfl sc__law_ratio.nd rfl rfl (by decide) rfl rfl (ea_cons (ee_mod (ee_var 3) (ee_var 2)) (ea_cons (ee_var 2) ea_nil)) (by rfl)))))
    (ess_one (es_ret (ee_tup (ea_cons (ee_div (ee_var 0) (ee_var 3)) (ea_cons (ee_div (ee_var 1) (ee_var 3)) ea_nil)))))))))
abbrev s__law_plus : Stmt := top 18
theorem sc__law_plus : FnScope ["s", "t"] ["s", "t"] (defScope s__law_plus) := ⟨rfl, rfl, rfl, by decide +kernel, rfl, by decide +kernel, by decide +kernel⟩
theorem ok__law_plus {f : Addr} {fd : FuncData} (F : Fun K "_law_plus" "_law_plus" s__law_plus f fd) (T : Txt K mg) (D__law_ratio : DefAt P w K mg base 1 "_law_ratio" ["p", "q"] T__law_ratio) : FnOk P w K mg base CX0 2 f fd ["s", "t"] (spD K 2 T__law_plus) := by
  refine fn_okD (k := 1) F sc__law_plus rfl fun cdv A outer s H hr => ⟨rd__law_plus, ?_, m__law_plus⟩
  exact (ess_one (es_ret (ee_call D__law_ratio hr (by decide) (by rfl) (ea_cons (ee_add (ee_mul (ee_ixk (n := 0) rfl (ee_var 0)) (ee_ixk (n := 1) rfl (ee_var 1))) (ee_mul (ee_ixk (n := 0) rfl (ee_var 1)) (ee_ixk (n := 1) rfl (ee_var 0)))) (ea_cons (ee_mul (ee_ixk (n := 1) rfl (ee_var 0)) (ee_ixk (n := 1) rfl (ee_var 1))) ea_nil)))))
abbrev s__law_mult : Stmt := top 19
theorem sc__law_mult : FnScope ["s", "t"] ["s", "t"] (defScope s__law_mult) := ⟨rfl, rfl, rfl, by decide +kernel, rfl, by decide +kernel, by decide +kernel⟩
theorem ok__law_mult {f : Addr} {fd : FuncData} (F : Fun K "_law_mult" "_law_mult" s__law_mult f fd) (T : Txt K mg) (D__law_ratio : DefAt P w K mg base 1 "_law_ratio" ["p", "q"] T__law_ratio) : FnOk P w K mg base CX0 2 f fd ["s", "t"] (spD K 2 T__law_mult) := by
  refine fn_okD (k := 1) F sc__law_mult rfl fun cdv A outer s H hr => ⟨rd__law_mult, ?_, m__law_mult⟩
  exact (ess_one (es_ret (ee_call D__law_ratio hr (by decide) (by rfl) (ea_cons (ee_mul (ee_ixk (n := 0) rfl (ee_var 0)) (ee_ixk (n := 0) rfl (ee_var 1))) (ea_cons (ee_mul (ee_ixk (n := 1) rfl (ee_var 0)) (ee_ixk (n := 1) rfl (ee_var 1))) ea_nil)))))
abbrev s__law_minus : Stmt := top 20
theorem sc__law_minus : FnScope ["s", "t"] ["s", "t"] (defScope s__law_minus) := ⟨rfl, rfl, rfl, by decide +kernel, rfl, by decide +kernel, by decide +kernel⟩
theorem ok__law_minus {f : Addr} {fd : FuncData} (F : Fun K "_law_minus" "_law_minus" s__law_minus f fd) (T : Txt K mg) (D__law_plus : DefAt P w K mg base 2 "_law_plus" ["s", "t"] T__law_plus) : FnOk P w K mg base CX0 3 f fd ["s", "t"] (spD K 2 T__law_minus) := by
  refine fn_okD (k := 2) F sc__law_minus rfl fun cdv A outer s H hr => ⟨rd__law_minus, ?_, m__law_minus⟩
  exact (ess_one (es_ret (ee_call D__law_plus hr (by decide) (by rfl) (ea_cons (ee_var 0) (ea_cons (ee_tup (ea_cons (ee_neg (ee_ixk (n := 0) rfl (ee_var 1))) (ea_cons (ee_ixk (n := 1) rfl (ee_var 1)) ea_nil))) ea_nil)))))
abbrev s__law_over : Stmt := top 21
theorem sc__law_over : FnScope ["s", "t"] ["s", "t"] (defScope s__law_over) := ⟨rfl, rfl, rfl, by decide +kernel, rfl, by decide +kernel, by decide +kernel⟩
theorem ok__law_over {f : Addr} {fd : FuncData} (F : Fun K "_law_over" "_law_over" s__law_over f fd) (T : Txt K mg) (D__law_ratio : DefAt P w K mg base 1 "_law_ratio" ["p", "q"] T__law_ratio) : FnOk P w K mg base CX0 2 f fd ["s", "t"] (spD K 2 T__law_over) := by
  refine fn_okD (k := 1) F sc__law_over rfl fun cdv A outer s H hr => ⟨rd__law_over, ?_, m__law_over⟩
  exact (ess_one (es_ret (ee_call D__law_ratio hr (by decide) (by rfl) (ea_cons (ee_mul (ee_ixk (n := 0) rfl (ee_var 0)) (ee_ixk (n := 1) rfl (ee_var 1))) (ea_cons (ee_mul (ee_ixk (n := 1) rfl (ee_var 0)) (ee_ixk (n := 0) rfl (ee_var 1))) ea_nil)))))
abbrev s__law_pick : Stmt := top 22
theorem sc__law_pick : FnScope ["deal", "things"] ["deal", "things"] (defScope s__law_pick) := ⟨rfl, rfl, rfl, by decide +kernel, rfl, by decide +kernel, by decide +kernel⟩
theorem ok__law_pick {f : Addr} {fd : FuncData} (F : Fun K "_law_pick" "_law_pick" s__law_pick f fd) (T : Txt K mg) (D__law_take : DefAt P w K mg base 1 "_law_take" ["deal", "many"] T__law_take) : FnOk P w K mg base CX0 2 f fd ["deal", "things"] (spD K 2 T__law_pick) := by
  refine fn_okD (k := 1) F sc__law_pick rfl fun cdv A outer s H hr => ⟨rd__law_pick, ?_, m__law_pick⟩
  exact (ess_one (es_ret (ee_ix (ee_var 1) (ee_call D__law_take hr (by decide) (by rfl) (ea_cons (ee_var 0) (ea_cons (ec_len (by rfl) T.b_len (ea_cons (ee_var 1) ea_nil)) ea_nil))))))
abbrev s__law_great : Stmt := top 23
theorem sc__law_great : FnScope ["deal", "many", "found", "turn"] ["deal", "many"] (defScope s__law_great) := ⟨rfl, rfl, rfl, by decide +kernel, rfl, by decide +kernel, by decide +kernel⟩
theorem ok__law_great {f : Addr} {fd : FuncData} (F : Fun K "_law_great" "_law_great" s__law_great f fd) (T : Txt K mg) (D__law_take : DefAt P w K mg base 1 "_law_take" ["deal", "many"] T__law_take) : FnOk P w K mg base CX0 2 f fd ["deal", "many"] (spD K 2 T__law_great) := by
  refine fn_okD (k := 1) F sc__law_great rfl fun cdv A outer s H hr => ⟨rd__law_great, ?_, m__law_great⟩
  exact (ess_cons (es_set 2 sc__law_great.nd rfl (by first | exact Or.inl rfl | exact Or.inr rfl) ee_int)
    (ess_cons (es_for PassesOwn.never rfl (ei_rg1 (by rfl) T.b_range (ea_cons (ee_var 1) ea_nil)) (eg_name (i := 3) sc__law_great.nd rfl (by first | exact Or.inl rfl | exact Or.inr rfl))
    (ess_one (es_set 2 sc__law_great.nd rfl (by first | exact Or.inl rfl | exact Or.inr rfl) (ee_add (ee_mul (ee_var 2) ee_int) (ee_call D__law_take hr (by decide) (by rfl) (ea_cons (ee_var 0) (ea_cons ee_int ea_nil)))))))
    (ess_one (es_ret (ee_var 2)))))
abbrev s__law_number : Stmt := top 24
theorem sc__law_number : FnScope ["deal", "sort", "size"] ["deal"] (defScope s__law_number) := ⟨rfl, rfl, rfl, by decide +kernel, rfl, by decide +kernel, by decide +kernel⟩
theorem ok__law_number {f : Addr} {fd : FuncData} (F : Fun K "_law_number" "_law_number" s__law_number f fd) (T : Txt K mg) (D__law_take : DefAt P w K mg base 1 "_law_take" ["deal", "many"] T__law_take) (D__law_pick : DefAt P w K mg base 2 "_law_pick" ["deal", "things"] T__law_pick) (D__law_great : DefAt P w K mg base 2 "_law_great" ["deal", "many"] T__law_great) : FnOk P w K mg base CX0 3 f fd ["deal"] (spD K 1 T__law_number) := by
  refine fn_okD (k := 2) F sc__law_number rfl fun cdv A outer s H hr => ⟨rd__law_number, ?_, m__law_number⟩
  exact (ess_cons (es_set 1 sc__law_number.nd rfl (by first | exact Or.inl rfl | exact Or.inr rfl) (ee_call D__law_take hr (by decide) (by rfl) (ea_cons (ee_var 0) (ea_cons ee_int ea_nil))))
    (ess_cons (es_if (et_eq hr.units (ee_var 1) ee_int)
    (ess_one (es_set 2 sc__law_number.nd rfl (by first | exact Or.inl rfl | exact Or.inr rfl) (ee_call D__law_pick hr (by decide) (by rfl) (ea_cons (ee_var 0) (ea_cons (ee_lst (ea_cons ee_int (ea_cons ee_int (ea_cons ee_int (ea_cons (ee_sub (ee_pow ee_int ee_int) ee_int) (ea_cons (ee_pow ee_int ee_int) (ea_cons (ee_add (ee_pow ee_int ee_int) ee_int) ea_nil))))))) ea_nil)))))
    (ess_one (es_if (et_eq hr.units (ee_var 1) ee_int)
    (ess_one (es_set 2 sc__law_number.nd rfl (by first | exact Or.inl rfl | exact Or.inr rfl) (ee_call D__law_great hr (by decide) (by rfl) (ea_cons (ee_var 0) (ea_cons ee_int ea_nil)))))
    (ess_one (es_if (et_eq hr.units (ee_var 1) ee_int)
    (ess_one (es_set 2 sc__law_number.nd rfl (by first | exact Or.inl rfl | exact Or.inr rfl) (ee_call D__law_great hr (by decide) (by rfl) (ea_cons (ee_var 0) (ea_cons ee_int ea_nil)))))
    (ess_one (es_set 2 sc__law_number.nd rfl (by first | exact Or.inl rfl | exact Or.inr rfl) (ee_call D__law_take hr (by decide) (by rfl) (ea_cons (ee_var 0) (ea_cons ee_int ea_nil))))))))))
    (ess_one (es_ret (ee_mul (ee_var 2) (ee_sub ee_int (ee_mul ee_int (ee_call D__law_take hr (by decide) (by rfl) (ea_cons (ee_var 0) (ea_cons ee_int ea_nil))))))))))
abbrev s__law_other : Stmt := top 25
theorem sc__law_other : FnScope ["deal", "found"] ["deal"] (defScope s__law_other) := ⟨rfl, rfl, rfl, by decide +kernel, rfl, by decide +kernel, by decide +kernel⟩
theorem ok__law_other {f : Addr} {fd : FuncData} (F : Fun K "_law_other" "_law_other" s__law_other f fd) (T : Txt K mg) (D__law_number : DefAt P w K mg base 3 "_law_number" ["deal"] T__law_number) : FnOk P w K mg base CX0 4 f fd ["deal"] (spD K 1 T__law_other) := by
  refine fn_okD (k := 3) F sc__law_other rfl fun cdv A outer s H hr => ⟨rd__law_other, ?_, m__law_other⟩
  exact (ess_cons (es_set 1 sc__law_other.nd rfl (by first | exact Or.inl rfl | exact Or.inr rfl) (ee_call D__law_number hr (by decide) (by rfl) (ea_cons (ee_var 0) ea_nil)))
    (ess_one (es_ret (ee_if (et_ne hr.units (ee_var 1) ee_int) (ee_var 1) ee_int))))
abbrev s__law_order : Stmt := top 26
theorem sc__law_order : FnScope ["s", "t", "gap"] ["s", "t"] (defScope s__law_order) := ⟨rfl, rfl, rfl, by decide +kernel, rfl, by decide +kernel, by decide +kernel⟩
theorem ok__law_order {f : Addr} {fd : FuncData} (F : Fun K "_law_order" "_law_order" s__law_order f fd) (T : Txt K mg)  : FnOk P w K mg base CX0 1 f fd ["s", "t"] (spD K 2 T__law_order) := by
  refine fn_okD (k := 0) F sc__law_order rfl fun cdv A outer s H hr => ⟨rd__law_order, ?_, m__law_order⟩
  exact (ess_cons (es_set 2 sc__law_order.nd rfl (by first | exact Or.inl rfl | exact Or.inr rfl) (ee_sub (ee_mul (ee_ixk (n := 0) rfl (ee_var 0)) (ee_ixk (n := 1) rfl (ee_var 1))) (ee_mul (ee_ixk (n := 0) rfl (ee_var 1)) (ee_ixk (n := 1) rfl (ee_var 0)))))
    (ess_one (es_ret (ee_sub (ec_int (by rfl) T.b_int (ea_cons (ee_gt (ee_var 2) ee_int) ea_nil)) (ec_int (by rfl) T.b_int (ea_cons (ee_lt (ee_var 2) ee_int) ea_nil))))))
abbrev s__law_two_right : Stmt := top 27
theorem sc__law_two_right : FnScope ["s", "t"] ["s", "t"] (defScope s__law_two_right) := ⟨rfl, rfl, rfl, by decide +kernel, rfl, by decide +kernel, by decide +kernel⟩
theorem ok__law_two_right {f : Addr} {fd : FuncData} (F : Fun K "_law_two_right" "_law_two_right" s__law_two_right f fd) (T : Txt K mg) (D_added : DefAt P w K mg base 3 "added" ["s", "t"] T_added) (D_opposite : DefAt P w K mg base 1 "opposite" ["t"] T_opposite) (D_less : DefAt P w K mg base 4 "less" ["s", "t"] T_less) (D_times : DefAt P w K mg base 3 "times" ["s", "t"] T_times) (D_over : DefAt P w K mg base 3 "over" ["s", "t"] T_over) (D_compare : DefAt P w K mg base 1 "compare" ["s", "t"] T_compare) (D__law_same : DefAt P w K mg base 3 "_law_same" ["a", "b"] T__law_same) (D__law_plus : DefAt P w K mg base 2 "_law_plus" ["s", "t"] T__law_plus) (D__law_mult : DefAt P w K mg base 2 "_law_mult" ["s", "t"] T__law_mult) (D__law_minus : DefAt P w K mg base 3 "_law_minus" ["s", "t"] T__law_minus) (D__law_over : DefAt P w K mg base 2 "_law_over" ["s", "t"] T__law_over) (D__law_order : DefAt P w K mg base 1 "_law_order" ["s", "t"] T__law_order) : FnOk P w K mg base CX0 5 f fd ["s", "t"] (spD K 2 T__law_two_right) := by
  refine fn_okD (k := 4) F sc__law_two_right rfl fun cdv A outer s H hr => ⟨rd__law_two_right, ?_, m__law_two_right⟩
  exact (ess_cons (es_if (PW.pt (ew_or (et_not (et_tru (ee_call D__law_same hr (by decide) (by rfl) (ea_cons (ee_call D_added hr (by decide) (by rfl) (ea_cons (ee_var 0) (ea_cons (ee_var 1) ea_nil))) (ea_cons (ee_call D__law_plus hr (by decide) (by rfl) (ea_cons (ee_var 0) (ea_cons (ee_var 1) ea_nil))) ea_nil))))) (ew_or1 (et_not (et_tru (ee_call D__law_same hr (by decide) (by rfl) (ea_cons (ee_call D_less hr (by decide) (by rfl) (ea_cons (ee_var 0) (ea_cons (ee_var 1) ea_nil))) (ea_cons (ee_call D__law_minus hr (by decide) (by rfl) (ea_cons (ee_var 0) (ea_cons (ee_var 1) ea_nil))) ea_nil))))))))
    (ess_one (es_ret ee_bl))
    ess_nil)
    (ess_cons (es_if (PW.pt (ew_or (et_not (et_tru (ee_call D__law_same hr (by decide) (by rfl) (ea_cons (ee_call D_times hr (by decide) (by rfl) (ea_cons (ee_var 0) (ea_cons (ee_var 1) ea_nil))) (ea_cons (ee_call D__law_mult hr (by decide) (by rfl) (ea_cons (ee_var 0) (ea_cons (ee_var 1) ea_nil))) ea_nil))))) (ew_or1 (et_not (et_tru (ee_call D__law_same hr (by decide) (by rfl) (ea_cons (ee_call D_opposite hr (by decide) (by rfl) (ea_cons (ee_var 0) ea_nil)) (ea_cons (ee_tup (ea_cons (ee_neg (ee_ixk (n := 0) rfl (ee_var 0))) (ea_cons (ee_ixk (n := 1) rfl (ee_var 0)) ea_nil))) ea_nil))))))))
    (ess_one (es_ret ee_bl))
    ess_nil)
    (ess_cons (es_if (PW.pt (ew_and (et_ne hr.units (ee_ixk (n := 0) rfl (ee_var 1)) ee_int) (ew_and1 (et_not (et_tru (ee_call D__law_same hr (by decide) (by rfl) (ea_cons (ee_call D_over hr (by decide) (by rfl) (ea_cons (ee_var 0) (ea_cons (ee_var 1) ea_nil))) (ea_cons (ee_call D__law_over hr (by decide) (by rfl) (ea_cons (ee_var 0) (ea_cons (ee_var 1) ea_nil))) ea_nil))))))))
    (ess_one (es_ret ee_bl))
    ess_nil)
    (ess_one (es_ret (ee_and (ee_call D__law_same hr (by decide) (by rfl) (ea_cons (ee_call D_compare hr (by decide) (by rfl) (ea_cons (ee_var 0) (ea_cons (ee_var 1) ea_nil))) (ea_cons (ee_call D__law_order hr (by decide) (by rfl) (ea_cons (ee_var 0) (ea_cons (ee_var 1) ea_nil))) ea_nil))) (ee_one (ee_call D__law_same hr (by decide) (by rfl) (ea_cons (ee_call D_compare hr (by decide) (by rfl) (ea_cons (ee_var 0) (ea_cons (ee_var 0) ea_nil))) (ea_cons ee_int ea_nil))))))))))
abbrev s__law_is_lowest : Stmt := top 28
theorem sc__law_is_lowest : FnScope ["p", "q"] ["p", "q"] (defScope s__law_is_lowest) := ⟨rfl, rfl, rfl, by decide +kernel, rfl, by decide +kernel, by decide +kernel⟩
theorem ok__law_is_lowest {f : Addr} {fd : FuncData} (F : Fun K "_law_is_lowest" "_law_is_lowest" s__law_is_lowest f fd) (T : Txt K mg) (D__law_ratio : DefAt P w K mg base 1 "_law_ratio" ["p", "q"] T__law_ratio) : FnOk P w K mg base CX0 2 f fd ["p", "q"] (spD K 2 T__law_is_lowest) := by
  refine fn_okD (k := 1) F sc__law_is_lowest rfl fun cdv A outer s H hr => ⟨rd__law_is_lowest, ?_, m__law_is_lowest⟩
  exact (ess_cons (es_if (et_lt (ee_var 1) ee_int)
    (ess_one (es_ret ee_bl))
    ess_nil)
    (ess_one (es_ret (ee_eq hr.units (ee_call D__law_ratio hr (by decide) (by rfl) (ea_cons (ee_var 0) (ea_cons (ee_var 1) ea_nil))) (ee_tup (ea_cons (ee_var 0) (ea_cons (ee_var 1) ea_nil)))))))
abbrev s__law_judged : Stmt := top 29
theorem sc__law_judged : FnScope ["p", "q", "by", "pairs", "one"] ["p", "q", "by"] (defScope s__law_judged) := ⟨rfl, rfl, rfl, by decide +kernel, rfl, by decide +kernel, by decide +kernel⟩
theorem ok__law_judged {f : Addr} {fd : FuncData} (F : Fun K "_law_judged" "_law_judged" s__law_judged f fd) (T : Txt K mg) (D_is_ratio : DefAt P w K mg base 2 "is_ratio" ["pair"] T_is_ratio) (D__law_bool : DefAt P w K mg base 1 "_law_bool" ["answer", "due"] T__law_bool) (D__law_is_lowest : DefAt P w K mg base 2 "_law_is_lowest" ["p", "q"] T__law_is_lowest) : FnOk P w K mg base CX0 3 f fd ["p", "q", "by"] (spD K 3 T__law_judged) := by
  refine fn_okD (k := 2) F sc__law_judged rfl fun cdv A outer s H hr => ⟨rd__law_judged, ?_, m__law_judged⟩
  exact (ess_cons (es_set 3 sc__law_judged.nd rfl (by first | exact Or.inl rfl | exact Or.inr rfl) (ee_lst (ea_cons (ee_tup (ea_cons (ee_var 0) (ea_cons (ee_var 1) ea_nil))) (ea_cons (ee_tup (ea_cons (ee_mul (ee_var 0) (ee_var 2)) (ea_cons (ee_mul (ee_var 1) (ee_var 2)) ea_nil))) (ea_cons (ee_tup (ea_cons (ee_var 0) (ea_cons (ee_neg (ee_var 1)) ea_nil))) (ea_cons (ee_tup (ea_cons (ee_mul (ee_var 0) (ee_var 2)) (ea_cons (ee_var 1) ea_nil))) (ea_cons (ee_tup (ea_cons (ee_var 0) (ea_cons (ee_mul (ee_var 1) (ee_var 2)) ea_nil))) (ea_cons (ee_tup (ea_cons ee_int (ea_cons (ec_abs (by rfl) T.b_abs (ea_cons (ee_var 1) ea_nil)) ea_nil))) (ea_cons (ee_tup (ea_cons (ee_var 0) (ea_cons ee_int ea_nil))) (ea_cons (ee_tup (ea_cons ee_int (ea_cons ee_int ea_nil))) (ea_cons (ee_tup (ea_cons (ee_var 2) (ea_cons ee_int ea_nil))) (ea_cons (ee_tup (ea_cons ee_int (ea_cons (ee_var 2) ea_nil))) (ea_cons (ee_tup (ea_cons ee_int (ea_cons ee_int ea_nil))) ea_nil)))))))))))))
    (ess_cons (es_for PassesOwn.never rfl (ei_items (ee_var 3)) (eg_name (i := 4) sc__law_judged.nd rfl (by first | exact Or.inl rfl | exact Or.inr rfl))
    (ess_one (es_if (et_not (et_tru (ee_call D__law_bool hr (by decide) (by rfl) (ea_cons (ee_call D_is_ratio hr (by decide) (by rfl) (ea_cons (ee_var 4) ea_nil)) (ea_cons (ee_call D__law_is_lowest hr (by decide) (by rfl) (ea_cons (ee_ixk (n := 0) rfl (ee_var 4)) (ea_cons (ee_ixk (n := 1) rfl (ee_var 4)) ea_nil))) ea_nil)))))
    (ess_one (es_ret ee_bl))
    ess_nil)))
    (ess_one (es_ret ee_bl))))
abbrev s__law_rows_right : Stmt := top 30
theorem sc__law_rows_right : FnScope ["deal", "many", "weights", "things", "total", "k", "last"] ["deal"] (defScope s__law_rows_right) := ⟨rfl, rfl, rfl, by decide +kernel, rfl, by decide +kernel, by decide +kernel⟩
theorem ok__law_rows_right {f : Addr} {fd : FuncData} (F : Fun K "_law_rows_right" "_law_rows_right" s__law_rows_right f fd) (T : Txt K mg) (D_blended : DefAt P w K mg base 4 "blended" ["weights", "ratios"] T_blended) (D__law_take : DefAt P w K mg base 1 "_law_take" ["deal", "many"] T__law_take) (D__law_same : DefAt P w K mg base 3 "_law_same" ["a", "b"] T__law_same) (D__law_ratio : DefAt P w K mg base 1 "_law_ratio" ["p", "q"] T__law_ratio) (D__law_plus : DefAt P w K mg base 2 "_law_plus" ["s", "t"] T__law_plus) (D__law_mult : DefAt P w K mg base 2 "_law_mult" ["s", "t"] T__law_mult) (D__law_minus : DefAt P w K mg base 3 "_law_minus" ["s", "t"] T__law_minus) (D__law_number : DefAt P w K mg base 3 "_law_number" ["deal"] T__law_number) (D__law_other : DefAt P w K mg base 4 "_law_other" ["deal"] T__law_other) : FnOk P w K mg base CX0 5 f fd ["deal"] (spD K 1 T__law_rows_right) := by
  refine fn_okD (k := 4) F sc__law_rows_right rfl fun cdv A outer s H hr => ⟨rd__law_rows_right, ?_, m__law_rows_right⟩
  exact (ess_cons (es_set 1 sc__law_rows_right.nd rfl (by first | exact Or.inl rfl | exact Or.inr rfl) (ee_call D__law_take hr (by decide) (by rfl) (ea_cons (ee_var 0) (ea_cons ee_int ea_nil))))
    (ess_cons (by first
      | exact es_setLcG 2 (own := [("k", 5)]) kok_mut (by decide) rfl sc__law_rows_right.nd rfl rfl (sw_true rfl rfl rfl (by decide +kernel)) (ei_rg1 (by rfl) T.b_range (ea_cons (ee_var 1) ea_nil)) (blkOk_by (own := [("k", 5)]) (N := ["deal", "many", "weights", "things", "total", "k", "last"]) (sc := defScope s__law_rows_right) (by decide +kernel)) (fun _ _ _ _ _ => (eg_name (i := 5) sc__law_rows_right.nd rfl (by first | exact Or.inl rfl | exact Or.inr rfl))) (fun _ _ _ _ _ => epts_nil) (fun _ _ _ _ _ => (ee_call D__law_ratio hr (by decide) (by rfl) (ea_cons (ee_sub (ee_call D__law_take hr (by decide) (by rfl) (ea_cons (ee_var 0) (ea_cons ee_int ea_nil))) ee_int) (ea_cons (ee_add ee_int (ee_call D__law_take hr (by decide) (by rfl) (ea_cons (ee_var 0) (ea_cons ee_int ea_nil)))) ea_nil))))
      | exact es_set 2 sc__law_rows_right.nd rfl (by first | exact Or.inl rfl | exact Or.inr rfl) (ee_lcG (own := [("k", 5)]) kok_mut (by decide) rfl sc__law_rows_right.nd (ei_rg1 (by rfl) T.b_range (ea_cons (ee_var 1) ea_nil)) (blkOk_by (own := [("k", 5)]) (N := ["deal", "many", "weights", "things", "total", "k", "last"]) (sc := defScope s__law_rows_right) (by decide +kernel)) (fun _ _ _ _ _ => (eg_name (i := 5) sc__law_rows_right.nd rfl (by first | exact Or.inl rfl | exact Or.inr rfl))) (fun _ _ _ _ _ => epts_nil) (fun _ _ _ _ _ => (ee_call D__law_ratio hr (by decide) (by rfl) (ea_cons (ee_sub (ee_call D__law_take hr (by decide) (by rfl) (ea_cons (ee_var 0) (ea_cons ee_int ea_nil))) ee_int) (ea_cons (ee_add ee_int (ee_call D__law_take hr (by decide) (by rfl) (ea_cons (ee_var 0) (ea_cons ee_int ea_nil)))) ea_nil))))))
    (ess_cons (by first
      | exact es_setLcG 3 (own := [("k", 5)]) kok_mut (by decide) rfl sc__law_rows_right.nd rfl rfl (sw_true rfl rfl rfl (by decide +kernel)) (ei_rg1 (by rfl) T.b_range (ea_cons (ee_var 1) ea_nil)) (blkOk_by (own := [("k", 5)]) (N := ["deal", "many", "weights", "things", "total", "k", "last"]) (sc := defScope s__law_rows_right) (by decide +kernel)) (fun _ _ _ _ _ => (eg_name (i := 5) sc__law_rows_right.nd rfl (by first | exact Or.inl rfl | exact Or.inr rfl))) (fun _ _ _ _ _ => epts_nil) (fun _ _ _ _ _ => (ee_call D__law_ratio hr (by decide) (by rfl) (ea_cons (ee_sub (ee_call D__law_take hr (by decide) (by rfl) (ea_cons (ee_var 0) (ea_cons ee_int ea_nil))) ee_int) (ea_cons (ee_add ee_int (ee_call D__law_take hr (by decide) (by rfl) (ea_cons (ee_var 0) (ea_cons ee_int ea_nil)))) ea_nil))))
      | exact es_set 3 sc__law_rows_right.nd rfl (by first | exact Or.inl rfl | exact Or.inr rfl) (ee_lcG (own := [("k", 5)]) kok_mut (by decide) rfl sc__law_rows_right.nd (ei_rg1 (by rfl) T.b_range (ea_cons (ee_var 1) ea_nil)) (blkOk_by (own := [("k", 5)]) (N := ["deal", "many", "weights", "things", "total", "k", "last"]) (sc := defScope s__law_rows_right) (by decide +kernel)) (fun _ _ _ _ _ => (eg_name (i := 5) sc__law_rows_right.nd rfl (by first | exact Or.inl rfl | exact Or.inr rfl))) (fun _ _ _ _ _ => epts_nil) (fun _ _ _ _ _ => (ee_call D__law_ratio hr (by decide) (by rfl) (ea_cons (ee_sub (ee_call D__law_take hr (by decide) (by rfl) (ea_cons (ee_var 0) (ea_cons ee_int ea_nil))) ee_int) (ea_cons (ee_add ee_int (ee_call D__law_take hr (by decide) (by rfl) (ea_cons (ee_var 0) (ea_cons ee_int ea_nil)))) ea_nil))))))
    (ess_cons (es_expr (ee_app (ee_var 2) (ee_tup (ea_cons (ee_call D__law_take hr (by decide) (by rfl) (ea_cons (ee_var 0) (ea_cons ee_int ea_nil))) (ea_cons ee_int ea_nil)))))
    (ess_cons (es_expr (ee_app (ee_var 3) (ee_call D__law_ratio hr (by decide) (by rfl) (ea_cons (ee_call D__law_number hr (by decide) (by rfl) (ea_cons (ee_var 0) ea_nil)) (ea_cons (ee_call D__law_other hr (by decide) (by rfl) (ea_cons (ee_var 0) ea_nil)) ea_nil)))))
    (ess_cons (es_set 4 sc__law_rows_right.nd rfl (by first | exact Or.inl rfl | exact Or.inr rfl) (ee_tup (ea_cons ee_int (ea_cons ee_int ea_nil))))
    (ess_cons (es_for PassesOwn.never rfl (ei_rg1 (by rfl) T.b_range (ea_cons (ec_len (by rfl) T.b_len (ea_cons (ee_var 2) ea_nil)) ea_nil)) (eg_name (i := 5) sc__law_rows_right.nd rfl (by first | exact Or.inl rfl | exact Or.inr rfl))
    (ess_one (es_set 4 sc__law_rows_right.nd rfl (by first | exact Or.inl rfl | exact Or.inr rfl) (ee_call D__law_plus hr (by decide) (by rfl) (ea_cons (ee_var 4) (ea_cons (ee_call D__law_mult hr (by decide) (by rfl) (ea_cons (ee_ix (ee_var 2) (ee_var 5)) (ea_cons (ee_ix (ee_var 3) (ee_var 5)) ea_nil))) ea_nil))))))
    (ess_cons (es_set 6 sc__law_rows_right.nd rfl (by first | exact Or.inl rfl | exact Or.inr rfl) (ee_call D__law_mult hr (by decide) (by rfl) (ea_cons (ee_ix (ee_var 2) (ee_neg ee_int)) (ea_cons (ee_ix (ee_var 3) (ee_neg ee_int)) ea_nil))))
    (ess_cons (es_if (PW.pt (ew_or (et_not (et_tru (ee_call D__law_same hr (by decide) (by rfl) (ea_cons (ee_call D_blended hr (by decide) (by rfl) (ea_cons (ec_tuple (by rfl) T.b_tuple (ea_cons (ee_var 2) ea_nil)) (ea_cons (ec_tuple (by rfl) T.b_tuple (ea_cons (ee_var 3) ea_nil)) ea_nil))) (ea_cons (ee_var 4) ea_nil))))) (ew_or1 (et_not (et_tru (ee_call D__law_same hr (by decide) (by rfl) (ea_cons (ee_call D_blended hr (by decide) (by rfl) (ea_cons (ee_tup ea_nil) (ea_cons (ee_tup ea_nil) ea_nil))) (ea_cons (ee_tup (ea_cons ee_int (ea_cons ee_int ea_nil))) ea_nil))))))))
    (ess_one (es_ret ee_bl))
    ess_nil)
    (ess_one (es_ret (ee_call D__law_same hr (by decide) (by rfl) (ea_cons (ee_call D_blended hr (by decide) (by rfl) (ea_cons (ec_tuple (by rfl) T.b_tuple (ea_cons (ee_sl (ee_var 2) eo_none (eo_some (ee_neg ee_int))) ea_nil)) (ea_cons (ec_tuple (by rfl) T.b_tuple (ea_cons (ee_sl (ee_var 3) eo_none (eo_some (ee_neg ee_int))) ea_nil)) ea_nil))) (ea_cons (ee_call D__law_minus hr (by decide) (by rfl) (ea_cons (ee_var 4) (ea_cons (ee_var 6) ea_nil))) ea_nil))))))))))))))
abbrev s_law : Stmt := top 31
theorem sc_law : FnScope ["script", "deal", "turn", "p", "q", "by", "s", "t", "near"] ["script"] (defScope s_law) := ⟨rfl, rfl, rfl, by decide +kernel, rfl, by decide +kernel, by decide +kernel⟩
theorem ok_law {f : Addr} {fd : FuncData} (F : Fun K "law" "law" s_law f fd) (T : Txt K mg) (D_ratio : DefAt P w K mg base 2 "ratio" ["p", "q"] T_ratio) (D__law_deal : DefAt P w K mg base 1 "_law_deal" ["script"] T__law_deal) (D__law_same : DefAt P w K mg base 3 "_law_same" ["a", "b"] T__law_same) (D__law_ratio : DefAt P w K mg base 1 "_law_ratio" ["p", "q"] T__law_ratio) (D__law_plus : DefAt P w K mg base 2 "_law_plus" ["s", "t"] T__law_plus) (D__law_number : DefAt P w K mg base 3 "_law_number" ["deal"] T__law_number) (D__law_other : DefAt P w K mg base 4 "_law_other" ["deal"] T__law_other) (D__law_two_right : DefAt P w K mg base 5 "_law_two_right" ["s", "t"] T__law_two_right) (D__law_judged : DefAt P w K mg base 3 "_law_judged" ["p", "q", "by"] T__law_judged) (D__law_rows_right : DefAt P w K mg base 5 "_law_rows_right" ["deal"] T__law_rows_right) : FnOk P w K mg base CX0 6 f fd ["script"] (spD K 1 T_law) := by
  refine fn_okD (k := 5) F sc_law rfl fun cdv A outer s H hr => ⟨rd_law, ?_, m_law⟩
  exact (ess_cons (es_set 1 sc_law.nd rfl (by first | exact Or.inl rfl | exact Or.inr rfl) (ee_call D__law_deal hr (by decide) (by rfl) (ea_cons (ee_var 0) ea_nil)))
    (ess_cons (es_for PassesOwn.never rfl (ei_rg1 (by rfl) T.b_range (ea_cons ee_int ea_nil)) (eg_name (i := 2) sc_law.nd rfl (by first | exact Or.inl rfl | exact Or.inr rfl))
    (ess_cons (es_set 3 sc_law.nd rfl (by first | exact Or.inl rfl | exact Or.inr rfl) (ee_call D__law_number hr (by decide) (by rfl) (ea_cons (ee_var 1) ea_nil)))
    (ess_cons (es_set 4 sc_law.nd rfl (by first | exact Or.inl rfl | exact Or.inr rfl) (ee_call D__law_other hr (by decide) (by rfl) (ea_cons (ee_var 1) ea_nil)))
    (ess_cons (es_set 5 sc_law.nd rfl (by first | exact Or.inl rfl | exact Or.inr rfl) (ee_call D__law_other hr (by decide) (by rfl) (ea_cons (ee_var 1) ea_nil)))
    (ess_cons (es_set 6 sc_law.nd rfl (by first | exact Or.inl rfl | exact Or.inr rfl) (ee_call D__law_ratio hr (by decide) (by rfl) (ea_cons (ee_var 3) (ea_cons (ee_var 4) ea_nil))))
    (ess_cons (es_set 7 sc_law.nd rfl (by first | exact Or.inl rfl | exact Or.inr rfl) (ee_call D__law_ratio hr (by decide) (by rfl) (ea_cons (ee_call D__law_number hr (by decide) (by rfl) (ea_cons (ee_var 1) ea_nil)) (ea_cons (ee_call D__law_other hr (by decide) (by rfl) (ea_cons (ee_var 1) ea_nil)) ea_nil))))
    (ess_cons (es_set 8 sc_law.nd rfl (by first | exact Or.inl rfl | exact Or.inr rfl) (ee_call D__law_plus hr (by decide) (by rfl) (ea_cons (ee_var 6) (ea_cons (ee_tup (ea_cons ee_int (ea_cons (ee_pow ee_int ee_int) ea_nil))) ea_nil))))
    (ess_cons (es_if (PW.pt (ew_or (et_not (et_tru (ee_call D__law_same hr (by decide) (by rfl) (ea_cons (ee_call D_ratio hr (by decide) (by rfl) (ea_cons (ee_mul (ee_var 3) (ee_var 5)) (ea_cons (ee_mul (ee_var 4) (ee_var 5)) ea_nil))) (ea_cons (ee_var 6) ea_nil))))) (ew_or1 (et_not (et_tru (ee_call D__law_same hr (by decide) (by rfl) (ea_cons (ee_call D_ratio hr (by decide) (by rfl) (ea_cons (ee_neg (ee_var 3)) (ea_cons (ee_var 4) ea_nil))) (ea_cons (ee_tup (ea_cons (ee_neg (ee_ixk (n := 0) rfl (ee_var 6))) (ea_cons (ee_ixk (n := 1) rfl (ee_var 6)) ea_nil))) ea_nil))))))))
    (ess_one (es_ret ee_bl))
    ess_nil)
    (ess_cons (es_if (PW.pt (ew_or (et_not (et_tru (ee_call D__law_two_right hr (by decide) (by rfl) (ea_cons (ee_var 6) (ea_cons (ee_var 7) ea_nil))))) (ew_or (et_not (et_tru (ee_call D__law_two_right hr (by decide) (by rfl) (ea_cons (ee_var 7) (ea_cons (ee_var 6) ea_nil))))) (ew_or (et_not (et_tru (ee_call D__law_two_right hr (by decide) (by rfl) (ea_cons (ee_var 6) (ea_cons (ee_var 8) ea_nil))))) (ew_or1 (et_not (et_tru (ee_call D__law_two_right hr (by decide) (by rfl) (ea_cons (ee_var 8) (ea_cons (ee_var 6) ea_nil))))))))))
    (ess_one (es_ret ee_bl))
    ess_nil)
    (ess_one (es_if (et_not (et_tru (ee_call D__law_judged hr (by decide) (by rfl) (ea_cons (ee_var 3) (ea_cons (ee_var 4) (ea_cons (ee_var 5) ea_nil))))))
    (ess_one (es_ret ee_bl))
    ess_nil)))))))))))
    (ess_one (es_ret (ee_call D__law_rows_right hr (by decide) (by rfl) (ea_cons (ee_var 1) ea_nil))))))
end
end K02

set_option Elab.async false
set_option linter.all false
set_option maxRecDepth 100000
set_option maxHeartbeats 4000000
namespace K02
open PySem L2 FL FR
theorem fn_false {P : Program} {w : World} {K : PySem.W.Frag} {mg : Str → Option Value} {base : Heap} {k n : Nat} {f : Addr} {fd : FuncData} {ps : List Str} {T : DSp} (hn : ps.length = n) (h : ∀ xs cs R, ¬ T xs cs R) : FnOk P w K mg base CX0 k f fd ps (spD K n T) :=
  ⟨fun vs H Q E q => by rw [hn]; exact q.1, fun A outer s H args us vs Q E hr he hb hv hs => by
    obtain ⟨_, G, π, cs, xs, R, _, _, q, _⟩ := hs
    exact (h xs cs R q).elim⟩
theorem all_mk {l : PySem.W.OpenLaw} {w : World} {K : PySem.W.Frag} {h : Heap} {mg : Str → Option Value} {fa : Addr} (X : K.In h) (G : h.Ns mainGlobals mg) (hfa : mg "law" = some (.ref fa))
    (r_greatest_divisor : Row K "greatest_divisor" s_greatest_divisor) (r_ratio : Row K "ratio" s_ratio) (r_added : Row K "added" s_added) (r_opposite : Row K "opposite" s_opposite) (r_less : Row K "less" s_less) (r_times : Row K "times" s_times) (r_over : Row K "over" s_over) (r_compare : Row K "compare" s_compare) (r_blended : Row K "blended" s_blended) (r_is_ratio : Row K "is_ratio" s_is_ratio) (r__law_deal : Row K "_law_deal" s__law_deal) (r__law_take : Row K "_law_take" s__law_take) (r__law_same : Row K "_law_same" s__law_same) (r__law_bool : Row K "_law_bool" s__law_bool) (r__law_ratio : Row K "_law_ratio" s__law_ratio) (r__law_plus : Row K "_law_plus" s__law_plus) (r__law_mult : Row K "_law_mult" s__law_mult) (r__law_minus : Row K "_law_minus" s__law_minus) (r__law_over : Row K "_law_over" s__law_over) (r__law_pick : Row K "_law_pick" s__law_pick) (r__law_great : Row K "_law_great" s__law_great) (r__law_number : Row K "_law_number" s__law_number) (r__law_other : Row K "_law_other" s__law_other) (r__law_order : Row K "_law_order" s__law_order) (r__law_two_right : Row K "_law_two_right" s__law_two_right) (r__law_is_lowest : Row K "_law_is_lowest" s__law_is_lowest) (r__law_judged : Row K "_law_judged" s__law_judged) (r__law_rows_right : Row K "_law_rows_right" s__law_rows_right) (r_law : Row K "law" s_law)
    (b_abs : PySem.W.nsIn K mainGlobals "abs" = some none) (b_zip : PySem.W.nsIn K mainGlobals "zip" = some none) (b_len : PySem.W.nsIn K mainGlobals "len" = some none) (b_min : PySem.W.nsIn K mainGlobals "min" = some none) (b_range : PySem.W.nsIn K mainGlobals "range" = some none) (b_int : PySem.W.nsIn K mainGlobals "int" = some none) (b_sum : PySem.W.nsIn K mainGlobals "sum" = some none) (b_isinstance : PySem.W.nsIn K mainGlobals "isinstance" = some none) (b_tuple : PySem.W.nsIn K mainGlobals "tuple" = some none) (b_list : PySem.W.nsIn K mainGlobals "list" = some none) (b_bool : PySem.W.nsIn K mainGlobals "bool" = some none) (b_str : PySem.W.nsIn K mainGlobals "str" = some none)
    (g_NOTHING : GlobD K mg "NOTHING" c_NOTHING) :
    ∃ fd : FuncData, (∀ (s : Shared) (u : Value), BindsTo s fd ⟨[u], []⟩ [("script", u)]) ∧ ∀ base : Heap, K.In base → base.Ns mainGlobals mg → FnOk l.prog w K mg base CX0 6 fa fd ["script"] (spD K 1 (TLaw 63)) := by
  have T : Txt K mg := ⟨PySem.W.mg_none_of X G b_abs, PySem.W.mg_none_of X G b_zip, PySem.W.mg_none_of X G b_len, PySem.W.mg_none_of X G b_min, PySem.W.mg_none_of X G b_range, PySem.W.mg_none_of X G b_int, PySem.W.mg_none_of X G b_sum, PySem.W.mg_none_of X G b_isinstance, PySem.W.mg_none_of X G b_tuple, PySem.W.mg_none_of X G b_list, PySem.W.mg_none_of X G b_bool, PySem.W.mg_none_of X G b_str, g_NOTHING⟩
  have D_greatest_divisor : ∀ base, DefAt l.prog w K mg base 1 "greatest_divisor" ["p", "q"] T_greatest_divisor := fun base => r_greatest_divisor.at_ X G (fun _ _ _ _ _ _ us hl => match us, hl with | [_, _], _ => rfl) (fun f fd F => ok_greatest_divisor F T )
  have D_ratio : ∀ base, DefAt l.prog w K mg base 2 "ratio" ["p", "q"] T_ratio := fun base => r_ratio.at_ X G (fun _ _ _ _ _ _ us hl => match us, hl with | [_, _], _ => rfl) (fun f fd F => ok_ratio F T (D_greatest_divisor base))
  have D_added : ∀ base, DefAt l.prog w K mg base 3 "added" ["s", "t"] T_added := fun base => r_added.at_ X G (fun _ _ _ _ _ _ us hl => match us, hl with | [_, _], _ => rfl) (fun f fd F => ok_added F T (D_ratio base))
  have D_opposite : ∀ base, DefAt l.prog w K mg base 1 "opposite" ["t"] T_opposite := fun base => r_opposite.at_ X G (fun _ _ _ _ _ _ us hl => match us, hl with | [_], _ => rfl) (fun f fd F => ok_opposite F T )
  have D_less : ∀ base, DefAt l.prog w K mg base 4 "less" ["s", "t"] T_less := fun base => r_less.at_ X G (fun _ _ _ _ _ _ us hl => match us, hl with | [_, _], _ => rfl) (fun f fd F => ok_less F T (D_added base) (D_opposite base))
  have D_times : ∀ base, DefAt l.prog w K mg base 3 "times" ["s", "t"] T_times := fun base => r_times.at_ X G (fun _ _ _ _ _ _ us hl => match us, hl with | [_, _], _ => rfl) (fun f fd F => ok_times F T (D_ratio base))
  have D_over : ∀ base, DefAt l.prog w K mg base 3 "over" ["s", "t"] T_over := fun base => r_over.at_ X G (fun _ _ _ _ _ _ us hl => match us, hl with | [_, _], _ => rfl) (fun f fd F => ok_over F T (D_ratio base))
  have D_compare : ∀ base, DefAt l.prog w K mg base 1 "compare" ["s", "t"] T_compare := fun base => r_compare.at_ X G (fun _ _ _ _ _ _ us hl => match us, hl with | [_, _], _ => rfl) (fun f fd F => ok_compare F T )
  have D_blended : ∀ base, DefAt l.prog w K mg base 4 "blended" ["weights", "ratios"] T_blended := fun base => r_blended.at_ X G (fun _ _ _ _ _ _ us hl => match us, hl with | [_, _], _ => rfl) (fun f fd F => ok_blended F T (D_added base) (D_times base))
  have D_is_ratio : ∀ base, DefAt l.prog w K mg base 2 "is_ratio" ["pair"] T_is_ratio := fun base => r_is_ratio.at_ X G (fun _ _ _ _ _ _ us hl => match us, hl with | [_], _ => rfl) (fun f fd F => ok_is_ratio F T (D_greatest_divisor base))
  have D__law_deal : ∀ base, DefAt l.prog w K mg base 1 "_law_deal" ["script"] T__law_deal := fun base => r__law_deal.at_ X G (fun _ _ _ _ _ _ us hl => match us, hl with | [_], _ => rfl) (fun f fd F => ok__law_deal F T )
  have D__law_take : ∀ base, DefAt l.prog w K mg base 1 "_law_take" ["deal", "many"] T__law_take := fun base => r__law_take.at_ X G (fun _ _ _ _ _ _ us hl => match us, hl with | [_, _], _ => rfl) (fun f fd F => ok__law_take F T )
  have D__law_same0 : ∀ base, DefAt l.prog w K mg base 0 "_law_same" ["a", "b"] (T__law_sameN 0) := fun base => r__law_same.at_ X G (fun _ _ _ _ _ _ us hl => match us, hl with | [_, _], _ => rfl) (fun f fd F => fn_false rfl (h__law_same0))
  have D__law_same1 : ∀ base, DefAt l.prog w K mg base 1 "_law_same" ["a", "b"] (T__law_sameN 1) := fun base => r__law_same.at_ X G (fun _ _ _ _ _ _ us hl => match us, hl with | [_, _], _ => rfl) (fun f fd F => ok__law_same (k := 0) (m__law_sameN 0) F T  (D__law_same0 base))
  have D__law_same2 : ∀ base, DefAt l.prog w K mg base 2 "_law_same" ["a", "b"] (T__law_sameN 2) := fun base => r__law_same.at_ X G (fun _ _ _ _ _ _ us hl => match us, hl with | [_, _], _ => rfl) (fun f fd F => ok__law_same (k := 1) (m__law_sameN 1) F T  (D__law_same1 base))
  have D__law_same : ∀ base, DefAt l.prog w K mg base 3 "_law_same" ["a", "b"] (T__law_sameN 3) := fun base => r__law_same.at_ X G (fun _ _ _ _ _ _ us hl => match us, hl with | [_, _], _ => rfl) (fun f fd F => ok__law_same (k := 2) (m__law_sameN 2) F T  (D__law_same2 base))
  have D__law_bool : ∀ base, DefAt l.prog w K mg base 1 "_law_bool" ["answer", "due"] T__law_bool := fun base => r__law_bool.at_ X G (fun _ _ _ _ _ _ us hl => match us, hl with | [_, _], _ => rfl) (fun f fd F => ok__law_bool F T )
  have D__law_ratio : ∀ base, DefAt l.prog w K mg base 1 "_law_ratio" ["p", "q"] T__law_ratio := fun base => r__law_ratio.at_ X G (fun _ _ _ _ _ _ us hl => match us, hl with | [_, _], _ => rfl) (fun f fd F => ok__law_ratio F T )
  have D__law_plus : ∀ base, DefAt l.prog w K mg base 2 "_law_plus" ["s", "t"] T__law_plus := fun base => r__law_plus.at_ X G (fun _ _ _ _ _ _ us hl => match us, hl with | [_, _], _ => rfl) (fun f fd F => ok__law_plus F T (D__law_ratio base))
  have D__law_mult : ∀ base, DefAt l.prog w K mg base 2 "_law_mult" ["s", "t"] T__law_mult := fun base => r__law_mult.at_ X G (fun _ _ _ _ _ _ us hl => match us, hl with | [_, _], _ => rfl) (fun f fd F => ok__law_mult F T (D__law_ratio base))
  have D__law_minus : ∀ base, DefAt l.prog w K mg base 3 "_law_minus" ["s", "t"] T__law_minus := fun base => r__law_minus.at_ X G (fun _ _ _ _ _ _ us hl => match us, hl with | [_, _], _ => rfl) (fun f fd F => ok__law_minus F T (D__law_plus base))
  have D__law_over : ∀ base, DefAt l.prog w K mg base 2 "_law_over" ["s", "t"] T__law_over := fun base => r__law_over.at_ X G (fun _ _ _ _ _ _ us hl => match us, hl with | [_, _], _ => rfl) (fun f fd F => ok__law_over F T (D__law_ratio base))
  have D__law_pick : ∀ base, DefAt l.prog w K mg base 2 "_law_pick" ["deal", "things"] T__law_pick := fun base => r__law_pick.at_ X G (fun _ _ _ _ _ _ us hl => match us, hl with | [_, _], _ => rfl) (fun f fd F => ok__law_pick F T (D__law_take base))
  have D__law_great : ∀ base, DefAt l.prog w K mg base 2 "_law_great" ["deal", "many"] T__law_great := fun base => r__law_great.at_ X G (fun _ _ _ _ _ _ us hl => match us, hl with | [_, _], _ => rfl) (fun f fd F => ok__law_great F T (D__law_take base))
  have D__law_number : ∀ base, DefAt l.prog w K mg base 3 "_law_number" ["deal"] T__law_number := fun base => r__law_number.at_ X G (fun _ _ _ _ _ _ us hl => match us, hl with | [_], _ => rfl) (fun f fd F => ok__law_number F T (D__law_take base) (D__law_pick base) (D__law_great base))
  have D__law_other : ∀ base, DefAt l.prog w K mg base 4 "_law_other" ["deal"] T__law_other := fun base => r__law_other.at_ X G (fun _ _ _ _ _ _ us hl => match us, hl with | [_], _ => rfl) (fun f fd F => ok__law_other F T (D__law_number base))
  have D__law_order : ∀ base, DefAt l.prog w K mg base 1 "_law_order" ["s", "t"] T__law_order := fun base => r__law_order.at_ X G (fun _ _ _ _ _ _ us hl => match us, hl with | [_, _], _ => rfl) (fun f fd F => ok__law_order F T )
  have D__law_two_right : ∀ base, DefAt l.prog w K mg base 5 "_law_two_right" ["s", "t"] T__law_two_right := fun base => r__law_two_right.at_ X G (fun _ _ _ _ _ _ us hl => match us, hl with | [_, _], _ => rfl) (fun f fd F => ok__law_two_right F T (D_added base) (D_opposite base) (D_less base) (D_times base) (D_over base) (D_compare base) (D__law_same base) (D__law_plus base) (D__law_mult base) (D__law_minus base) (D__law_over base) (D__law_order base))
  have D__law_is_lowest : ∀ base, DefAt l.prog w K mg base 2 "_law_is_lowest" ["p", "q"] T__law_is_lowest := fun base => r__law_is_lowest.at_ X G (fun _ _ _ _ _ _ us hl => match us, hl with | [_, _], _ => rfl) (fun f fd F => ok__law_is_lowest F T (D__law_ratio base))
  have D__law_judged : ∀ base, DefAt l.prog w K mg base 3 "_law_judged" ["p", "q", "by"] T__law_judged := fun base => r__law_judged.at_ X G (fun _ _ _ _ _ _ us hl => match us, hl with | [_, _, _], _ => rfl) (fun f fd F => ok__law_judged F T (D_is_ratio base) (D__law_bool base) (D__law_is_lowest base))
  have D__law_rows_right : ∀ base, DefAt l.prog w K mg base 5 "_law_rows_right" ["deal"] T__law_rows_right := fun base => r__law_rows_right.at_ X G (fun _ _ _ _ _ _ us hl => match us, hl with | [_], _ => rfl) (fun f fd F => ok__law_rows_right F T (D_blended base) (D__law_take base) (D__law_same base) (D__law_ratio base) (D__law_plus base) (D__law_mult base) (D__law_minus base) (D__law_number base) (D__law_other base))
  exact r_law.law X G hfa (fun _ _ _ _ _ _ _ => rfl) (fun base _ _ f fd F => ok_law F T (D_ratio base) (D__law_deal base) (D__law_same base) (D__law_ratio base) (D__law_plus base) (D__law_number base) (D__law_other base) (D__law_two_right base) (D__law_judged base) (D__law_rows_right base))
end K02
open PySem PySem.W PyProof.Rows in
set_option maxRecDepth 100000 in
set_option maxHeartbeats 0 in
theorem PySem.Challenge.cw_surepilot_k02_whole_ratios_of_any_size_holds : PySem.Challenge.rw_surepilot_k02_whole_ratios_of_any_size.Holds := by
  w_on; o_law; k_head; (case hw => w_witness2)
  k_fill
  refine FL.walkD (k := 6) (l := PySem.Challenge.rw_surepilot_k02_whole_ratios_of_any_size) rfl rfl ⟨rfl, by decide, by decide⟩ (fun w h Y => PySem.W.kIn_of Y) ?F
  case F =>
    intro w mg fa h KX G hmg
    refine' K02.all_mk KX G hmg (FL.Row.mk' ?a0 ?l0 ?c0 ?k0) (FL.Row.mk' ?a1 ?l1 ?c1 ?k1) (FL.Row.mk' ?a2 ?l2 ?c2 ?k2) (FL.Row.mk' ?a3 ?l3 ?c3 ?k3) (FL.Row.mk' ?a4 ?l4 ?c4 ?k4) (FL.Row.mk' ?a5 ?l5 ?c5 ?k5) (FL.Row.mk' ?a6 ?l6 ?c6 ?k6) (FL.Row.mk' ?a7 ?l7 ?c7 ?k7) (FL.Row.mk' ?a8 ?l8 ?c8 ?k8) (FL.Row.mk' ?a9 ?l9 ?c9 ?k9) (FL.Row.mk' ?a10 ?l10 ?c10 ?k10) (FL.Row.mk' ?a11 ?l11 ?c11 ?k11) (FL.Row.mk' ?a12 ?l12 ?c12 ?k12) (FL.Row.mk' ?a13 ?l13 ?c13 ?k13) (FL.Row.mk' ?a14 ?l14 ?c14 ?k14) (FL.Row.mk' ?a15 ?l15 ?c15 ?k15) (FL.Row.mk' ?a16 ?l16 ?c16 ?k16) (FL.Row.mk' ?a17 ?l17 ?c17 ?k17) (FL.Row.mk' ?a18 ?l18 ?c18 ?k18) (FL.Row.mk' ?a19 ?l19 ?c19 ?k19) (FL.Row.mk' ?a20 ?l20 ?c20 ?k20) (FL.Row.mk' ?a21 ?l21 ?c21 ?k21) (FL.Row.mk' ?a22 ?l22 ?c22 ?k22) (FL.Row.mk' ?a23 ?l23 ?c23 ?k23) (FL.Row.mk' ?a24 ?l24 ?c24 ?k24) (FL.Row.mk' ?a25 ?l25 ?c25 ?k25) (FL.Row.mk' ?a26 ?l26 ?c26 ?k26) (FL.Row.mk' ?a27 ?l27 ?c27 ?k27) (FL.Row.mk' ?a28 ?l28 ?c28 ?k28) ?b0 ?b1 ?b2 ?b3 ?b4 ?b5 ?b6 ?b7 ?b8 ?b9 ?b10 ?b11 (FL.glob01 KX G ?gl0 ?hl0 ?il0 ?jl0)
    (case a0 => k_is); (case l0 => k_is); (case c0 => k_is); (case k0 => k_is)
    (case a1 => k_is); (case l1 => k_is); (case c1 => k_is); (case k1 => k_is)
    (case a2 => k_is); (case l2 => k_is); (case c2 => k_is); (case k2 => k_is)
    (case a3 => k_is); (case l3 => k_is); (case c3 => k_is); (case k3 => k_is)
    (case a4 => k_is); (case l4 => k_is); (case c4 => k_is); (case k4 => k_is)
    (case a5 => k_is); (case l5 => k_is); (case c5 => k_is); (case k5 => k_is)
    (case a6 => k_is); (case l6 => k_is); (case c6 => k_is); (case k6 => k_is)
    (case a7 => k_is); (case l7 => k_is); (case c7 => k_is); (case k7 => k_is)
    (case a8 => k_is); (case l8 => k_is); (case c8 => k_is); (case k8 => k_is)
    (case a9 => k_is); (case l9 => k_is); (case c9 => k_is); (case k9 => k_is)
    (case a10 => k_is); (case l10 => k_is); (case c10 => k_is); (case k10 => k_is)
    (case a11 => k_is); (case l11 => k_is); (case c11 => k_is); (case k11 => k_is)
    (case a12 => k_is); (case l12 => k_is); (case c12 => k_is); (case k12 => k_is)
    (case a13 => k_is); (case l13 => k_is); (case c13 => k_is); (case k13 => k_is)
    (case a14 => k_is); (case l14 => k_is); (case c14 => k_is); (case k14 => k_is)
    (case a15 => k_is); (case l15 => k_is); (case c15 => k_is); (case k15 => k_is)
    (case a16 => k_is); (case l16 => k_is); (case c16 => k_is); (case k16 => k_is)
    (case a17 => k_is); (case l17 => k_is); (case c17 => k_is); (case k17 => k_is)
    (case a18 => k_is); (case l18 => k_is); (case c18 => k_is); (case k18 => k_is)
    (case a19 => k_is); (case l19 => k_is); (case c19 => k_is); (case k19 => k_is)
    (case a20 => k_is); (case l20 => k_is); (case c20 => k_is); (case k20 => k_is)
    (case a21 => k_is); (case l21 => k_is); (case c21 => k_is); (case k21 => k_is)
    (case a22 => k_is); (case l22 => k_is); (case c22 => k_is); (case k22 => k_is)
    (case a23 => k_is); (case l23 => k_is); (case c23 => k_is); (case k23 => k_is)
    (case a24 => k_is); (case l24 => k_is); (case c24 => k_is); (case k24 => k_is)
    (case a25 => k_is); (case l25 => k_is); (case c25 => k_is); (case k25 => k_is)
    (case a26 => k_is); (case l26 => k_is); (case c26 => k_is); (case k26 => k_is)
    (case a27 => k_is); (case l27 => k_is); (case c27 => k_is); (case k27 => k_is)
    (case a28 => k_is); (case l28 => k_is); (case c28 => k_is); (case k28 => k_is)
    (case b0 => k_is)
    (case b1 => k_is)
    (case b2 => k_is)
    (case b3 => k_is)
    (case b4 => k_is)
    (case b5 => k_is)
    (case b6 => k_is)
    (case b7 => k_is)
    (case b8 => k_is)
    (case b9 => k_is)
    (case b10 => k_is)
    (case b11 => k_is)
    (case gl0 => k_is); (case hl0 => k_is); (case il0 => decide); (case jl0 => exact .cons ⟨_, rfl⟩ (.cons ⟨_, rfl⟩ .nil))
#print axioms PySem.Challenge.cw_surepilot_k02_whole_ratios_of_any_size_holds

